import PyProof.Rows.All
import HandS.ForMost
import HandS.More
import HandS.TupAny
import HandS.TupMul
import HandS.Deep
import HandS.Flow
import HandS.SortInts
import HandS.Zip
import HandS.Style
import HandS.SetFor
import HandS.IsInst
import HandS.RaiseMore
import HandS.Small
import KE.DatumOrd
import HandS.Iter
import KE.GoesEnum
import HandS.Zip0
import HandS.Conv
import KE.KRevSl
import PyProof.StrLawsRepr
import PySem.Challenge.RW_oddjoins_k04_parts
set_option Elab.async false
set_option linter.all false
set_option maxRecDepth 100000
noncomputable section
/-! Mini: a small language, its values and its evaluator. -/
namespace Mn
open PySem L2

inductive MV where
  | non | bl (b : Bool) | int (i : Int) | str (s : Str) | tup (xs : List MV) | ref (a : Nat)
  deriving Inhabited
mutual
def MV.eqb : MV → MV → Bool
  | .non, .non => true
  | .bl a, .bl b => a == b
  | .int a, .int b => a == b
  | .str a, .str b => decide (a = b)
  | .tup a, .tup b => MV.eqbs a b
  | .ref a, .ref b => a == b
  | _, _ => false
def MV.eqbs : List MV → List MV → Bool
  | [], [] => true
  | x :: xs, y :: ys => MV.eqb x y && MV.eqbs xs ys
  | _, _ => false
end
mutual
theorem MV.eqb_iff : ∀ a b : MV, MV.eqb a b = true ↔ a = b
  | .non, b => by cases b <;> simp [MV.eqb]
  | .bl a, b => by cases b <;> simp [MV.eqb]
  | .int a, b => by cases b <;> simp [MV.eqb]
  | .str a, b => by cases b <;> simp [MV.eqb]
  | .ref a, b => by cases b <;> simp [MV.eqb]
  | .tup a, b => by cases b <;> simp [MV.eqb, MV.eqbs_iff a]
theorem MV.eqbs_iff : ∀ a b : List MV, MV.eqbs a b = true ↔ a = b
  | [], b => by cases b <;> simp [MV.eqbs]
  | x :: xs, b => by cases b <;> simp [MV.eqbs, MV.eqb_iff x, MV.eqbs_iff xs]
end
instance : DecidableEq MV := fun a b => decidable_of_iff _ (MV.eqb_iff a b)
/-- what lies in the small heap: a list, a list that is only read, a dict -/
inductive MO where
  | lst (xs : List MV) | fro (xs : List MV) | dct (kvs : List (Key × MV))
  deriving DecidableEq
abbrev MH := List MO
inductive R (α : Type) where
  | ok (a : α) (h : MH) | exc (c : Str) (fs : List MV) (h : MH) | bad
def R.bind {α β : Type} : R α → (α → MH → R β) → R β
  | .ok a h, f => f a h
  | .exc c fs h, _ => .exc c fs h
  | .bad, _ => .bad
def R.map {α β : Type} (r : R α) (f : α → β) : R β := r.bind fun a h => .ok (f a) h
abbrev MS' := List (Option MV)

inductive IK where
  | val | rng1 | rng2 | enum | zip | items
  deriving DecidableEq
inductive MT where
  | nm (i : Nat) | tp (ts : List MT)
inductive Bi where
  | len | sum | sorted | tuple | list | int | str | repr | all | any | min | max | abs
  deriving DecidableEq
inductive Me where
  | append | extend | pop | insert | count | index | reverse | get | items | join | split | remove | clear | copy
  deriving DecidableEq
inductive Ty where
  | int | bool | str | tuple | list | dict
  deriving DecidableEq
inductive ME where
  | c (v : MV) | var (i : Nat) | glb (x : Str)
  | tup (es : List ME) | lst (es : List ME)
  | bin (op : Operator) (a b : ME) | neg (a : ME) | not_ (a : ME)
  | cmp (op : CmpOp) (a b : ME) | chain (o1 o2 : CmpOp) (a b c : ME)
  | and_ (a b : ME) | or_ (a b : ME) | ife (t a b : ME)
  | ix (a b : ME) | sl (a : ME) | slL (a lo : ME) | slH (a hi : ME) | slB (a lo hi : ME) | rev (a : ME)
  | call (f : Str) (es : List ME) | blt (b : Bi) (es : List ME) | meth (m : Me) (o : ME) (es : List ME)
  | isi (a : ME) (t : Ty)
  | dsp (es : List ME) | rngL (a b : ME) | rngT (a b : ME)
  | lc (elt : ME) (tg : MT) (ik : IK) (a b : ME) (ifs : List ME) (own : List Nat)
inductive MS where
  | asg (tg : MT) (e : ME) | asgSub (o i e : ME) | expr (e : ME) | ret (e : ME) | retN
  | ite (t : ME) (a b : List MS) | for_ (tg : MT) (ik : IK) (a b : ME) (body : List MS) | whl (t : ME) (body : List MS)
  | pass | brk | cont

def lineM : Nat := 1000000

/-! ### values -/
mutual
/-- the tree of a value; what a reference stands for is told by f -/
def dV (f : Nat → Option PyData) : MV → Option PyData
  | .non => some .none
  | .bl b => some (.bool b)
  | .int i => some (.int i)
  | .str s => some (.str s)
  | .tup xs => (dVs f xs).map .tuple
  | .ref a => f a
def dVs (f : Nat → Option PyData) : List MV → Option (List PyData)
  | [] => some []
  | x :: xs => match dV f x, dVs f xs with
    | some d, some ds => some (d :: ds)
    | _, _ => none
end
def snapR (h : MH) : Nat → Nat → Option PyData
  | 0, _ => none
  | n + 1, a => match h[a]? with
    | some (.lst xs) => (dVs (snapR h n) xs).map .list
    | some (.fro xs) => (dVs (snapR h n) xs).map .list
    | _ => none
def snap (h : MH) (v : MV) : Option PyData := dV (snapR h 6) v
def shp (d : PyData) : Bool := SeqAt.shaped d

mutual
def noRef : MV → Bool
  | .tup xs => noRefs xs
  | .ref _ => false
  | .non => true | .bl _ => true | .int _ => true | .str _ => true
def noRefs : List MV → Bool
  | [] => true
  | x :: xs => noRef x && noRefs xs
end
mutual
def bel (n : Nat) : MV → Bool
  | .tup xs => bels n xs
  | .ref a => decide (a < n)
  | .non => true | .bl _ => true | .int _ => true | .str _ => true
def bels (n : Nat) : List MV → Bool
  | [] => true
  | x :: xs => bel n x && bels n xs
end
def MO.bel (n : Nat) : MO → Bool
  | .lst xs => bels n xs
  | .fro xs => bels n xs
  | .dct kvs => kvs.all fun p => Mn.bel n p.2

/-- a list that may be read -/
def lsts (h : MH) (a : Nat) : Option (List MV) := match h[a]? with
  | some (.lst xs) => some xs
  | some (.fro xs) => some xs
  | _ => none
/-- the items of a list or a tuple -/
def seqs (h : MH) : MV → Option (List MV)
  | .tup xs => some xs
  | .ref a => lsts h a
  | _ => none
def truth (h : MH) : MV → Option Bool
  | .non => some false
  | .bl b => some b
  | .int i => some (i != 0)
  | .str s => if s.length ≤ lineM then some (s.length != 0) else none
  | .tup xs => some (!xs.isEmpty)
  | .ref a => match h[a]? with
    | some (.lst xs) => some (!xs.isEmpty)
    | some (.fro xs) => some (!xs.isEmpty)
    | some (.dct kvs) => some (!kvs.isEmpty)
    | none => none
def newO (o : MO) (h : MH) : R MV := .ok (.ref h.length) (h ++ [o])
def allInts : List MV → Option (List Int)
  | [] => some []
  | .int i :: xs => (allInts xs).map (i :: ·)
  | _ :: _ => none
def allBls : List MV → Option (List Bool)
  | [] => some []
  | .bl i :: xs => (allBls xs).map (i :: ·)
  | _ :: _ => none
def intKeys {α : Type} : List (Key × α) → Option (List Int)
  | [] => some []
  | (.inl i, _) :: r => (intKeys r).map (i :: ·)
  | _ :: _ => none
def flatM : MV → Bool
  | .tup _ => false
  | .ref _ => false
  | _ => true
def eqF (x y : MV) : Bool := match snap [] x, snap [] y with
  | some d, some e => PyData.eqv d e
  | _, _ => false
def keyOf : MV → Option Key
  | .int i => some (.inl i)
  | .str s => some (.inr s)
  | _ => none
def getK (k : Key) (kvs : List (Key × MV)) : Option MV := (kvs.find? fun kv => decide (kv.1 = k)).map (·.2)
def putK (k : Key) (v : MV) (kvs : List (Key × MV)) : List (Key × MV) :=
  if (kvs.any fun kv => decide (kv.1 = k)) = true then kvs.map (fun kv => if kv.1 = k then (kv.1, v) else kv) else kvs ++ [(k, v)]

section
local instance (priority := 10000) clP (p : Prop) : Decidable p := Classical.propDecidable p
def binM (op : Operator) (x y : MV) (h : MH) : R MV :=
  match op, x, y with
  | .Add, .int i, .int j => .ok (.int (i + j)) h
  | .Add, .str a, .str b => if a.length + b.length ≤ lineM then .ok (.str (a ++ b)) h else .bad
  | .Add, .tup a, .tup b => if a.length + b.length ≤ lineM then .ok (.tup (a ++ b)) h else .bad
  | .Add, .ref a, .ref b => match h[a]?, h[b]? with
    | some (.lst xs), some (.lst ys) => if xs.length + ys.length ≤ lineM then newO (.lst (xs ++ ys)) h else .bad
    | _, _ => .bad
  | .Sub, .int i, .int j => .ok (.int (i - j)) h
  | .Mult, .int i, .int j => if i.natAbs < 2 ^ 64 ∨ j.natAbs < 2 ^ 64 then .ok (.int (i * j)) h else .bad
  | .Mult, .ref a, .int k => match h[a]? with
    | some (.lst xs) => if -(2 ^ 63) ≤ k ∧ k < 2 ^ 63 ∧ xs.length * k.toNat ≤ lineM then newO (.lst (List.replicate k.toNat xs).flatten) h else .bad
    | _ => .bad
  | .Mult, .tup xs, .int k => if 2 ≤ k ∧ k ≤ 1000 ∧ xs.length ≤ 1000 ∧ xs ≠ [] then .ok (.tup (List.replicate k.toNat xs).flatten) h else .bad
  | .FloorDiv, .int i, .int j => if 0 < j ∧ j < 1073741824 then .ok (.int (i / j)) h else .bad
  | .Mod, .int i, .int j => if 0 < j then .ok (.int (i % j)) h else .bad
  | .Pow, .int i, .int j => if 0 ≤ j ∧ j ≤ 1000000 ∧ i.natAbs < 2 ^ 64 then .ok (.int (i ^ j.toNat)) h else .bad
  | .LShift, .int i, .int j => if 0 ≤ j ∧ j ≤ 1000000 ∧ i.natAbs < 2 ^ 64 then .ok (.int (i * 2 ^ j.toNat)) h else .bad
  | .RShift, .int i, .int j => if 0 ≤ j then .ok (.int (i / 2 ^ j.toNat)) h else .bad
  | .BitAnd, .int i, .int j => .ok (.int (Builtin.bitAnd i j)) h
  | .BitOr, .int i, .int j => .ok (.int (Builtin.bitOr i j)) h
  | .BitXor, .int i, .int j => .ok (.int (Builtin.bitXor i j)) h
  | _, _, _ => .bad
end

def eqD (h : MH) (x y : MV) : Option Bool := match snap h x, snap h y with
  | some d, some e => if shp d && shp e then some (PyData.eqv d e) else none
  | _, _ => none
def strOf : MV → Option Str
  | .str s => some s
  | _ => none
def eqM (h : MH) (x y : MV) : Option Bool := match strOf x, strOf y with
  | some a, some b => some (decide (a = b))
  | _, _ => eqD h x y
/-- x in y -/
def inM (h : MH) (x y : MV) : Option Bool := match y with
  | .tup ys => if flatM x && ys.all flatM then some (ys.any fun z => eqF z x) else none
  | .ref a => match h[a]? with
    | some (.dct kvs) => (keyOf x).map fun k => (getK k kvs).isSome
    | _ => match lsts h a with
      | some ys => if flatM x && ys.all flatM then some (ys.any fun z => eqF z x) else
        match snap h x, dVs (snapR h 5) ys with
        | some d, some ds => if shp d && shp (.list ds) then some (ds.any fun z => PyData.eqv z d) else none
        | _, _ => none
      | none => none
  | .str z => match x with
    | .str w => some (!(Builtin.Str.occurrences z w 0 z.length 1).isEmpty)
    | _ => none
  | _ => none
def cmpM (op : CmpOp) (x y : MV) (h : MH) : Option Bool :=
  match op with
  | .Eq => eqM h x y
  | .NotEq => (eqM h x y).map (!·)
  | .Lt => match x, y with
    | .int i, .int j => some (decide (i < j))
    | _, _ => none
  | .LtE => match x, y with
    | .int i, .int j => some (decide (i ≤ j))
    | _, _ => none
  | .Gt => match x, y with
    | .int i, .int j => some (decide (j < i))
    | _, _ => none
  | .GtE => match x, y with
    | .int i, .int j => some (decide (j ≤ i))
    | _, _ => none
  | .In => inM h x y
  | .NotIn => (inM h x y).map (!·)
  | .Is => match y with
    | .non => some (decide (x = .non))
    | _ => none
  | .IsNot => match y with
    | .non => some (!decide (x = .non))
    | _ => none
def ofB (o : Option Bool) (h : MH) : R MV := match o with
  | some b => .ok (.bl b) h
  | none => .bad
def ofO {α : Type} (o : Option α) (h : MH) : R α := match o with
  | some b => .ok b h
  | none => .bad

/-! ### subscripts, slices -/
def ixM (x y : MV) (h : MH) : R MV := match x, y with
  | .tup xs, .int i => ofO (atI xs i) h
  | .ref a, y => match h[a]? with
    | some (.dct kvs) => match keyOf y with
      | some k => ofO (getK k kvs) h
      | none => .bad
    | _ => match lsts h a, y with
      | some xs, .int i => ofO (atI xs i) h
      | _, _ => .bad
  | .str z, .int i => if z.length ≤ lineM then ofO ((atI z.cps.toList i).map fun c => .str ⟨#[c]⟩) h else .bad
  | _, _ => .bad
def cutM (xs : List MV) (lo hi : Option Int) : List MV := (xs.drop (HT.sIx xs.length 0 lo)).take (HT.sIx xs.length xs.length hi - HT.sIx xs.length 0 lo)
def slM (x : MV) (lo hi : Option Int) (h : MH) : R MV := match x with
  | .tup xs => .ok (.tup (cutM xs lo hi)) h
  | .ref a => match lsts h a with
    | some xs => newO (.lst (cutM xs lo hi)) h
    | none => .bad
  | .str z => if z.length ≤ lineM then .ok (.str (cutS z lo hi)) h else .bad
  | _ => .bad
def revM (x : MV) (h : MH) : R MV := match x with
  | .tup xs => .ok (.tup xs.reverse) h
  | .ref a => match lsts h a with
    | some xs => newO (.lst xs.reverse) h
    | none => .bad
  | _ => .bad
def setM (o i v : MV) (h : MH) : Option MH := match o, i with
  | .ref a, i => match h[a]? with
    | some (.lst xs) => match i with
      | .int i => (ixN xs.length i).bind fun j => if j < xs.length then some (h.set a (.lst (xs.set j v))) else none
      | _ => none
    | some (.dct kvs) => (keyOf i).bind fun k => if kvs.length < lineM then some (h.set a (.dct (putK k v kvs))) else none
    | _ => none
  | _, _ => none
def isiM (x : MV) (t : Ty) (h : MH) : Option Bool := match x, t with
  | .non, _ => some false
  | .bl _, .int => some true
  | .bl _, .bool => some true
  | .bl _, _ => some false
  | .int _, t => some (decide (t = .int))
  | .str _, t => some (decide (t = .str))
  | .tup _, t => some (decide (t = .tuple))
  | .ref a, t => match h[a]? with
    | some (.lst _) => some (decide (t = .list))
    | some (.dct _) => some (decide (t = .dict))
    | _ => none

/-! ### built-in functions, methods -/
def reprD (d : PyData) : Option Str := if d.showable = true ∧ d.hasDict = false ∧ d.depth ≤ 60 ∧ d.shown.length ≤ lineM then some d.shown else none
def bltM (b : Bi) (vs : List MV) (h : MH) : R MV := match b, vs with
  | .len, [.str z] => if z.length ≤ lineM then .ok (.int z.length) h else .bad
  | .len, [.tup xs] => .ok (.int xs.length) h
  | .len, [.ref a] => match h[a]? with
    | some (.lst xs) => .ok (.int xs.length) h
    | some (.fro xs) => .ok (.int xs.length) h
    | some (.dct kvs) => .ok (.int kvs.length) h
    | none => .bad
  | .sum, [.ref a] => match (lsts h a).bind allInts with
    | some ns => .ok (.int ns.sum) h
    | none => .bad
  | .all, [.ref a] => match (lsts h a).bind allBls with
    | some ns => .ok (.bl (ns.all id)) h
    | none => .bad
  | .any, [.ref a] => match (lsts h a).bind allBls with
    | some ns => .ok (.bl (ns.any id)) h
    | none => .bad
  | .tuple, [.tup xs] => .ok (.tup xs) h
  | .tuple, [.ref a] => match lsts h a with
    | some xs => .ok (.tup xs) h
    | none => .bad
  | .list, [v] => match seqs h v with
    | some xs => newO (.lst xs) h
    | none => .bad
  | .int, [.int i] => .ok (.int i) h
  | .int, [.bl k] => .ok (.int (if k then 1 else 0)) h
  | .str, [.int i] => if i.natAbs.log2 < 1920 then .ok (.str (toString i)) h else .bad
  | .str, [.str s] => .ok (.str s) h
  | .repr, [v] => match (snap h v).bind reprD with
    | some s => .ok (.str s) h
    | none => .bad
  | .abs, [.int i] => .ok (.int (if i < 0 then -i else i)) h
  | .max, [.int i, .int j] => .ok (.int (if j > i then j else i)) h
  | .min, [.int i, .int j] => .ok (.int (if j < i then j else i)) h
  | .max, [v] => match (seqs h v).bind allInts with
    | some (n :: ns) => .ok (.int (PySem.W.maxOf n ns)) h
    | _ => .bad
  | .min, [v] => match (seqs h v).bind allInts with
    | some (n :: ns) => .ok (.int (PySem.W.minOf n ns)) h
    | _ => .bad
  | .sorted, [.ref a] => match h[a]? with
    | some (.dct kvs) => match intKeys kvs with
      | some ns => if ns.length < 64 then newO (.lst ((ns.mergeSort fun x y => decide (x ≤ y)).map .int)) h else .bad
      | none => .bad
    | _ => match (lsts h a).bind allInts with
      | some ns => newO (.lst ((ns.mergeSort fun x y => decide (x ≤ y)).map .int)) h
      | none => .bad
  | _, _ => .bad
inductive Kd where
  | list | dict | str | tuple
  deriving DecidableEq
def kdM (h : MH) : MV → Option Kd
  | .str _ => some .str
  | .tup _ => some .tuple
  | .ref a => match h[a]? with
    | some (.lst _) => some .list
    | some (.fro _) => some .list
    | some (.dct _) => some .dict
    | none => none
  | _ => none
section
local instance (priority := 10000) clP2 (p : Prop) : Decidable p := Classical.propDecidable p
def methM (m : Me) (kd : Kd) (o : MV) (vs : List MV) (h : MH) : R MV := match o with
  | .ref a => match h[a]?, kd with
    | some (.lst xs), .list => match m, vs with
      | .append, [y] => if xs.length < lineM then .ok .non (h.set a (.lst (xs ++ [y]))) else .bad
      | .extend, [.ref b] => match h[b]? with
        | some (.lst ys) => if xs.length + ys.length ≤ lineM then .ok .non (h.set a (.lst (xs ++ ys))) else .bad
        | _ => .bad
      | .pop, [] => match xs[xs.length - 1]? with
        | some y => .ok y (h.set a (.lst xs.dropLast))
        | none => .bad
      | .pop, [.int i] => match (if 0 ≤ i ∧ i < 2 ^ 62 then xs[i.toNat]? else none) with
        | some y => .ok y (h.set a (.lst (xs.eraseIdx i.toNat)))
        | none => .bad
      | .insert, [.int i, y] => if xs.length < lineM ∧ 0 ≤ i ∧ i < 2 ^ 62 then .ok .non (h.set a (.lst (xs.take i.toNat ++ [y] ++ xs.drop i.toNat))) else .bad
      | .reverse, [] => .ok .non (h.set a (.lst xs.reverse))
      | .clear, [] => .ok .non (h.set a (.lst []))
      | _, _ => .bad
    | some (.dct kvs), .dict => match m, vs with
      | .get, [k] => match keyOf k with
        | some k => .ok ((getK k kvs).getD .non) h
        | none => .bad
      | .get, [k, d] => match keyOf k with
        | some k => .ok ((getK k kvs).getD d) h
        | none => .bad
      | _, _ => .bad
    | _, _ => .bad
  | _ => .bad

end
/-! ### what a loop walks -/
inductive It where
  | fix (xs : List MV) | live (a : Nat) | enumF (xs : List MV) | enumL (a : Nat) | zipFF (xs ys : List MV) | zipLL (a b : Nat)
def enumI (xs : List MV) : List MV := xs.mapIdx fun i x => .tup [.int i, x]
def zipI (xs ys : List MV) : List MV := xs.zipWith (fun x y => .tup [x, y]) ys
def It.items (it : It) (h : MH) : Option (List MV) := match it with
  | .fix xs => some xs
  | .live a => lsts h a
  | .enumF xs => some (enumI xs)
  | .enumL a => (lsts h a).map enumI
  | .zipFF xs ys => some (zipI xs ys)
  | .zipLL a b => match lsts h a, lsts h b with
    | some xs, some ys => some (zipI xs ys)
    | _, _ => none
def rngI (lo : Int) (n : Nat) : List MV := (List.range n).map fun k => .int (lo + (k : Nat))
def pairUp : List MV → Option (List (Key × MV))
  | [] => some []
  | x :: y :: r => match keyOf x, pairUp r with
    | some k, some ps => some ((k, y) :: ps)
    | _, _ => none
  | _ => none
section
local instance (priority := 10000) clP3 (p : Prop) : Decidable p := Classical.propDecidable p
def rngM (x y : MV) : Option (List MV) := match x, y with
  | .int i, .int j => if -(2 ^ 62) ≤ i ∧ i < 2 ^ 62 ∧ -(2 ^ 62) ≤ j ∧ j < 2 ^ 62 ∧ (j - i).toNat ≤ lineM then some (rngI i (j - i).toNat) else none
  | _, _ => none
def itM (k : IK) (x y : MV) (h : MH) : Option It := match k, x, y with
  | .val, .tup xs, _ => some (.fix xs)
  | .val, .ref a, _ => (lsts h a).map fun _ => .live a
  | .rng1, .int j, _ => if -(2 ^ 62) ≤ j ∧ j < 2 ^ 62 then some (.fix (rngI 0 j.toNat)) else none
  | .rng2, .int i, .int j => if (-(2 ^ 62) ≤ i ∧ i < 2 ^ 62) ∧ (-(2 ^ 62) ≤ j ∧ j < 2 ^ 62) then some (.fix (rngI i (j - i).toNat)) else none
  | .enum, .tup xs, _ => some (.enumF xs)
  | .enum, .ref a, _ => (lsts h a).map fun _ => .enumL a
  | .zip, .tup xs, .tup ys => some (.zipFF xs ys)
  | .zip, .ref a, .ref b => match lsts h a, lsts h b with
    | some _, some _ => some (.zipLL a b)
    | _, _ => none
  | _, _, _ => none
end
mutual
def asgT : MT → MV → MS' → Option MS'
  | .nm i, v, σ => some (σ.set i (some v))
  | .tp ts, .tup xs, σ => if xs.length = ts.length then asgTs ts xs σ else none
  | .tp _, _, _ => none
def asgTs : List MT → List MV → MS' → Option MS'
  | [], _, σ => some σ
  | t :: ts, x :: xs, σ => (asgT t x σ).bind fun σ => asgTs ts xs σ
  | _ :: _, [], _ => none
end
def wipeM (σ : MS') : List Nat → MS'
  | [] => σ
  | v :: vs => (wipeM σ vs).set v none
mutual
def MT.slots : MT → List Nat
  | .nm i => [i]
  | .tp ts => MT.slotss ts
def MT.slotss : List MT → List Nat
  | [] => []
  | t :: ts => MT.slots t ++ MT.slotss ts
end
/-- the turn's item: n turns are left, i are behind -/
def turnI (it : It) (h : MH) (i n : Nat) : Option MV := (it.items h).bind fun xs => if xs.length = i + n then xs[i]? else none
def doneI (it : It) (h : MH) (i : Nat) : Bool := match it.items h with
  | some xs => xs.length == i
  | none => false
def compGo (it : It) (step : MV → MH → R (Option MV)) : Nat → Nat → List MV → MH → R (List MV)
  | 0, i, acc, h => if doneI it h i then .ok acc h else .bad
  | n + 1, i, acc, h => match turnI it h i (n + 1) with
    | some v => (step v h).bind fun
      | none, h => compGo it step n (i + 1) acc h
      | some y, h => if acc.length < lineM then compGo it step n (i + 1) (acc ++ [y]) h else .bad
    | none => .bad
def lcStep (a : Option MS') (ts : MS' → MH → R Bool) (el : MS' → MH → R MV) (h : MH) : R (Option MV) := match a with
  | some σ => (ts σ h).bind fun
    | true, h => (el σ h).bind fun y h => .ok (some y) h
    | false, h => .ok none h
  | none => .bad
inductive Fl where
  | nx (σ : MS') | ret (v : MV) | brk (σ : MS') | cont (σ : MS')
def forGo (it : It) (step : MV → MS' → MH → R Fl) : Nat → Nat → MS' → MH → R Fl
  | 0, i, σ, h => if doneI it h i then .ok (.nx σ) h else .bad
  | n + 1, i, σ, h => match turnI it h i (n + 1) with
    | some v => (step v σ h).bind fun
      | .nx σ, h => forGo it step n (i + 1) σ h
      | .cont σ, h => forGo it step n (i + 1) σ h
      | .brk σ, h => .ok (.nx σ) h
      | .ret v, h => .ok (.ret v) h
    | none => .bad
def forStep (a : Option MS') (b : MS' → MH → R Fl) (h : MH) : R Fl := match a with
  | some σ => b σ h
  | none => .bad
def whlGo (test : MS' → MH → R MV) (step : MS' → MH → R Fl) : Nat → MS' → MH → R Fl
  | 0, _, _ => .bad
  | n + 1, σ, h => (test σ h).bind fun v h => match truth h v with
    | some true => (step σ h).bind fun
      | .nx σ, h => whlGo test step n σ h
      | .cont σ, h => whlGo test step n σ h
      | .brk σ, h => .ok (.nx σ) h
      | .ret v, h => .ok (.ret v) h
    | some false => .ok (.nx σ) h
    | none => .bad

structure Cm where
  call : Str → List MV → MH → R MV
  gl : Str → Option MV
  fuel : Nat

mutual
def evE (X : Cm) : ME → MS' → MH → R MV
  | .c v, _, h => .ok v h
  | .var i, σ, h => match σ[i]? with
    | some (some v) => .ok v h
    | _ => .bad
  | .glb x, _, h => ofO (X.gl x) h
  | .tup es, σ, h => (evEs X es σ h).bind fun vs h => .ok (.tup vs) h
  | .lst es, σ, h => (evEs X es σ h).bind fun vs h => newO (.lst vs) h
  | .bin op a b, σ, h => (evE X a σ h).bind fun x h => (evE X b σ h).bind fun y h => binM op x y h
  | .neg a, σ, h => (evE X a σ h).bind fun
    | .int i, h => .ok (.int (-i)) h
    | _, _ => .bad
  | .not_ a, σ, h => (evE X a σ h).bind fun x h => match truth h x with
    | some b => .ok (.bl (!b)) h
    | none => .bad
  | .cmp op a b, σ, h => (evE X a σ h).bind fun x h => (evE X b σ h).bind fun y h => ofB (cmpM op x y h) h
  | .chain o1 o2 a b c, σ, h => (evE X a σ h).bind fun x h => (evE X b σ h).bind fun y h => match cmpM o1 x y h with
    | some true => (evE X c σ h).bind fun z h => ofB (cmpM o2 y z h) h
    | some false => .ok (.bl false) h
    | none => .bad
  | .and_ a b, σ, h => (evE X a σ h).bind fun x h => match truth h x with
    | some true => evE X b σ h
    | some false => .ok x h
    | none => .bad
  | .or_ a b, σ, h => (evE X a σ h).bind fun x h => match truth h x with
    | some true => .ok x h
    | some false => evE X b σ h
    | none => .bad
  | .ife t a b, σ, h => (evE X t σ h).bind fun x h => match truth h x with
    | some true => evE X a σ h
    | some false => evE X b σ h
    | none => .bad
  | .ix a b, σ, h => (evE X a σ h).bind fun x h => (evE X b σ h).bind fun y h => ixM x y h
  | .sl a, σ, h => (evE X a σ h).bind fun x h => slM x none none h
  | .slL a lo, σ, h => (evE X a σ h).bind fun x h => (evE X lo σ h).bind fun
    | .int i, h => slM x (some i) none h
    | _, _ => .bad
  | .slH a hi, σ, h => (evE X a σ h).bind fun x h => (evE X hi σ h).bind fun
    | .int i, h => slM x none (some i) h
    | _, _ => .bad
  | .slB a lo hi, σ, h => (evE X a σ h).bind fun x h => (evE X lo σ h).bind fun
    | .int i, h => (evE X hi σ h).bind fun
      | .int j, h => slM x (some i) (some j) h
      | _, _ => .bad
    | _, _ => .bad
  | .rev a, σ, h => (evE X a σ h).bind fun x h => revM x h
  | .call f es, σ, h => (evEs X es σ h).bind fun vs h => X.call f vs h
  | .blt b es, σ, h => (evEs X es σ h).bind fun vs h => bltM b vs h
  | .meth m o es, σ, h => (evE X o σ h).bind fun x h => match kdM h x with
    | some kd => (evEs X es σ h).bind fun vs h => methM m kd x vs h
    | none => .bad
  | .isi a t, σ, h => (evE X a σ h).bind fun x h => ofB (isiM x t h) h
  | .dsp es, σ, h => (evEs X es σ h).bind fun vs h => match pairUp vs with
    | some ps => newO (.dct (ps.foldl (fun acc kv => putK kv.1 kv.2 acc) [])) h
    | none => .bad
  | .rngL a b, σ, h => (evE X a σ h).bind fun x h => (evE X b σ h).bind fun y h => match rngM x y with
    | some xs => newO (.lst xs) h
    | none => .bad
  | .rngT a b, σ, h => (evE X a σ h).bind fun x h => (evE X b σ h).bind fun y h => match rngM x y with
    | some xs => .ok (.tup xs) h
    | none => .bad
  | .lc elt tg ik a b ifs own, σ, h => (evE X a σ h).bind fun x h => (evE X b σ h).bind fun y h => match itM ik x y h with
    | some it => match it.items h with
      | some xs => (compGo it (fun v h => lcStep (asgT tg v (wipeM σ own)) (fun σ h => evTs X ifs σ h) (fun σ h => evE X elt σ h) h) xs.length 0 [] h).bind fun vs h => newO (.lst vs) h
      | none => .bad
    | none => .bad
def evEs (X : Cm) : List ME → MS' → MH → R (List MV)
  | [], _, h => .ok [] h
  | e :: es, σ, h => (evE X e σ h).bind fun v h => (evEs X es σ h).bind fun vs h => .ok (v :: vs) h
def evTs (X : Cm) : List ME → MS' → MH → R Bool
  | [], _, h => .ok true h
  | e :: es, σ, h => (evE X e σ h).bind fun v h => match truth h v with
    | some true => evTs X es σ h
    | some false => .ok false h
    | none => .bad
end
mutual
def evS (X : Cm) : MS → MS' → MH → R Fl
  | .asg tg e, σ, h => (evE X e σ h).bind fun v h => ofO ((asgT tg v σ).map .nx) h
  | .asgSub o i e, σ, h => (evE X e σ h).bind fun v h => (evE X o σ h).bind fun x h => (evE X i σ h).bind fun y h => match setM x y v h with
    | some h => .ok (.nx σ) h
    | none => .bad
  | .expr e, σ, h => (evE X e σ h).bind fun _ h => .ok (.nx σ) h
  | .ret e, σ, h => (evE X e σ h).bind fun v h => .ok (.ret v) h
  | .retN, σ, h => .ok (.ret .non) h
  | .ite t a b, σ, h => (evE X t σ h).bind fun v h => match truth h v with
    | some true => evSs X a σ h
    | some false => evSs X b σ h
    | none => .bad
  | .for_ tg ik a b body, σ, h => (evE X a σ h).bind fun x h => (evE X b σ h).bind fun y h => match itM ik x y h with
    | some it => match it.items h with
      | some xs => forGo it (fun v σ h => forStep (asgT tg v σ) (fun σ h => evSs X body σ h) h) xs.length 0 σ h
      | none => .bad
    | none => .bad
  | .whl t body, σ, h => whlGo (fun σ h => evE X t σ h) (fun σ h => evSs X body σ h) X.fuel σ h
  | .pass, σ, h => .ok (.nx σ) h
  | .brk, σ, h => .ok (.brk σ) h
  | .cont, σ, h => .ok (.cont σ) h
def evSs (X : Cm) : List MS → MS' → MH → R Fl
  | [], σ, h => .ok (.nx σ) h
  | s :: ss, σ, h => (evS X s σ h).bind fun
    | .nx σ, h => evSs X ss σ h
    | f, h => .ok f h
end

/-! ### functions -/
structure FD where
  np : Nat
  nl : Nat
  body : List MS
/-- a return keeps all that lies in the small heap -/
def trimM (h0 : MH) (v : MV) (h : MH) : R MV := .ok v h
def finM (h0 : MH) (r : R Fl) : R MV := match r with
  | .ok (.ret v) h => trimM h0 v h
  | .ok (.nx _) h => trimM h0 .non h
  | .exc c fs h => .exc c fs h
  | _ => .bad
def runF (Γ : Str → Option FD) (gl : Str → Option MV) (W : Nat) : Nat → Str → List MV → MH → R MV
  | 0, _, _, _ => .bad
  | d + 1, f, vs, h => match Γ f with
    | some fd => if vs.length = fd.np then finM h (evSs ⟨runF Γ gl W d, gl, W⟩ fd.body (vs.map some ++ List.replicate (fd.nl - fd.np) none) h) else .bad
    | none => .bad
end Mn

set_option maxHeartbeats 2000000
/-! Rep: how small values stand for the layer's values; steps of the abstract heap. -/
namespace Mn
open PySem PySem.Spec PyProof.Rows L2

section
variable (K : PySem.W.Frag) (ρ : List Addr) (H : Hp)
mutual
inductive Rep : MV → V → Prop
  | non : Rep .non .non
  | bl (b : Bool) : Rep (.bl b) (.bl b)
  | int (i : Int) : Rep (.int i) (.int i)
  | str (s : Str) : Rep (.str s) (.str s)
  | tup {xs : List MV} {p : Addr} {vs : List V} : SqT K H p vs → Reps xs vs → Rep (.tup xs) (.ref p)
  | ref {a : Nat} {p : Addr} : ρ[a]? = some p → Rep (.ref a) (.ref p)
inductive Reps : List MV → List V → Prop
  | nil : Reps [] []
  | cons {x : MV} {v : V} {xs : List MV} {vs : List V} : Rep x v → Reps xs vs → Reps (x :: xs) (v :: vs)
end
inductive KReps : List (Key × MV) → List (Key × V) → Prop
  | nil : KReps [] []
  | cons {k : Key} {x : MV} {v : V} {xs : List (Key × MV)} {vs : List (Key × V)} : Rep K ρ H x v → KReps xs vs → KReps ((k, x) :: xs) ((k, v) :: vs)
/-- a list that is only read -/
def FzL (K : PySem.W.Frag) (H : Hp) (p : Addr) (vs : List V) : Prop := (∃ o, H p = some (.frz o (.lst vs))) ∨ SqL K (fun _ => none) p vs
def RepO : MO → Addr → Prop
  | .lst xs, p => ∃ vs, H p = some (.lst vs) ∧ Reps K ρ H xs vs
  | .fro xs, p => ∃ vs, FzL K H p vs ∧ Reps K ρ H xs vs
  | .dct kvs, p => ∃ ws, H p = some (.dK ws) ∧ KReps K ρ H kvs ws
end
theorem FzL.seq {K : PySem.W.Frag} {H : Hp} {p : Addr} {vs : List V} (h : FzL K H p vs) : SqL K H p vs := by
  rcases h with ⟨o, h⟩ | h
  · exact .inl (.inr ⟨o, h⟩)
  · rcases h with h | h
    · rcases h with h | ⟨_, h⟩ <;> cases h
    · exact .inr h
theorem FzL.at {K : PySem.W.Frag} {H H' : Hp} {p : Addr} {vs : List V} (h : FzL K H p vs) (k : ∀ o u, H p = some (.frz o u) → H' p = some (.frz o u)) : FzL K H' p vs := by
  rcases h with ⟨o, h⟩ | h
  · exact .inl ⟨o, k _ _ h⟩
  · exact .inr h
def MO.mut : MO → Bool
  | .fro _ => false
  | _ => true
structure RepH (K : PySem.W.Frag) (ρ : List Addr) (mh : MH) (H : Hp) : Prop where
  len : ρ.length = mh.length
  inj : ∀ (a b : Nat) (p : Addr) (oa ob : MO), ρ[a]? = some p → ρ[b]? = some p → mh[a]? = some oa → mh[b]? = some ob → oa.mut = true → ob.mut = true → a = b
  obj : ∀ (a : Nat) (p : Addr) (o : MO), ρ[a]? = some p → mh[a]? = some o → RepO K ρ H o p
def Mu (ρ : List Addr) (mh : MH) (p : Addr) : Prop := ∃ (a : Nat) (o : MO), ρ[a]? = some p ∧ mh[a]? = some o ∧ o.mut = true
structure Stp (ρ : List Addr) (mh : MH) (H : Hp) (ρ' : List Addr) (mh' : MH) (H' : Hp) : Prop where
  pre : ρ <+: ρ'
  new : ∀ p, Mu ρ' mh' p → Mu ρ mh p ∨ H p = none
  frm : ∀ p o, ¬ Mu ρ mh p → H p = some o → H' p = some o
theorem Stp.refl {ρ : List Addr} {mh : MH} {H : Hp} : Stp ρ mh H ρ mh H := ⟨List.prefix_refl _, fun _ h => .inl h, fun _ _ _ h => h⟩
theorem Stp.trans {ρ ρ1 ρ2 : List Addr} {mh m1 m2 : MH} {H H1 H2 : Hp} (a : Stp ρ mh H ρ1 m1 H1) (b : Stp ρ1 m1 H1 ρ2 m2 H2) : Stp ρ mh H ρ2 m2 H2 := by
  refine ⟨a.pre.trans b.pre, fun p h => ?_, fun p o n h => ?_⟩
  · rcases b.new p h with h | h
    · exact a.new p h
    · by_cases m : Mu ρ mh p
      · exact .inl m
      · cases e : H p with
        | none => exact .inr rfl
        | some o => rw [a.frm p o m e] at h; cases h
  · refine b.frm p o (fun m => ?_) (a.frm p o n h)
    rcases a.new p m with z | z
    · exact n z
    · rw [h] at z; cases z
theorem RepH.mu {K : PySem.W.Frag} {ρ : List Addr} {mh : MH} {H : Hp} (R : RepH K ρ mh H) {p : Addr} (m : Mu ρ mh p) : (∃ vs, H p = some (.lst vs)) ∨ ∃ ws, H p = some (.dK ws) := by
  obtain ⟨a, o, e1, e2, e3⟩ := m
  have h := R.obj a p o e1 e2
  cases o with
  | lst xs => obtain ⟨vs, e, _⟩ := h; exact .inl ⟨vs, e⟩
  | fro xs => cases e3
  | dct kvs => obtain ⟨vs, e, _⟩ := h; exact .inr ⟨vs, e⟩
theorem prefix_get {α : Type} {l l' : List α} (h : l <+: l') {i : Nat} {x : α} (e : l[i]? = some x) : l'[i]? = some x := by
  obtain ⟨t, rfl⟩ := h
  have hl : i < l.length := (List.getElem?_eq_some_iff.mp e).1
  rw [List.getElem?_append_left hl]; exact e
theorem SqT.stp {K : PySem.W.Frag} {ρ ρ' : List Addr} {mh mh' : MH} {H H' : Hp} (R : RepH K ρ mh H) (S : Stp ρ mh H ρ' mh' H') {p : Addr} {vs : List V} (h : SqT K H p vs) : SqT K H' p vs := by
  rcases h with h | h
  · refine .inl ?_
    have nm : ¬ Mu ρ mh p := fun m => by
      rcases R.mu m with ⟨xs, e⟩ | ⟨xs, e⟩ <;> (rcases h with h | ⟨o, h⟩ <;> (rw [e] at h; cases h))
    rcases h with h | ⟨o, h⟩
    · exact .inl (S.frm p _ nm h)
    · exact .inr ⟨o, S.frm p _ nm h⟩
  · exact .inr h
section
variable {K : PySem.W.Frag} {ρ ρ' : List Addr} {mh mh' : MH} {H H' : Hp}
mutual
theorem Rep.mono' (hp : ρ <+: ρ') (ht : ∀ p vs, SqT K H p vs → SqT K H' p vs) : ∀ (x : MV) (v : V), Rep K ρ H x v → Rep K ρ' H' x v
  | .non, _, h => by cases h; exact .non
  | .bl _, _, h => by cases h; exact .bl _
  | .int _, _, h => by cases h; exact .int _
  | .str _, _, h => by cases h; exact .str _
  | .ref a, _, h => by cases h with | ref e => exact .ref (prefix_get hp e)
  | .tup xs, _, h => by cases h with | tup s r => exact .tup (ht _ _ s) (Reps.mono' hp ht xs _ r)
theorem Reps.mono' (hp : ρ <+: ρ') (ht : ∀ p vs, SqT K H p vs → SqT K H' p vs) : ∀ (xs : List MV) (vs : List V), Reps K ρ H xs vs → Reps K ρ' H' xs vs
  | [], _, h => by cases h; exact .nil
  | x :: xs, _, h => by cases h with | cons a b => exact .cons (Rep.mono' hp ht x _ a) (Reps.mono' hp ht xs _ b)
end
theorem Rep.stp (R : RepH K ρ mh H) (S : Stp ρ mh H ρ' mh' H') {x : MV} {v : V} (h : Rep K ρ H x v) : Rep K ρ' H' x v := Rep.mono' S.pre (fun _ _ q => Mn.SqT.stp R S q) x v h
theorem Reps.stp (R : RepH K ρ mh H) (S : Stp ρ mh H ρ' mh' H') {x : List MV} {v : List V} (h : Reps K ρ H x v) : Reps K ρ' H' x v := Reps.mono' S.pre (fun _ _ q => Mn.SqT.stp R S q) x v h
theorem KReps.mono' (hp : ρ <+: ρ') (ht : ∀ p vs, SqT K H p vs → SqT K H' p vs) {x : List (Key × MV)} {v : List (Key × V)} (h : KReps K ρ H x v) : KReps K ρ' H' x v := by
  induction h with
  | nil => exact .nil
  | cons a _ ih => exact .cons (Rep.mono' hp ht _ _ a) ih
theorem Reps.length {xs : List MV} {vs : List V} (h : Reps K ρ H xs vs) : xs.length = vs.length := by
  induction xs generalizing vs with
  | nil => cases h; rfl
  | cons x xs ih => cases h with | cons a b => simp [ih b]
theorem Reps.get {xs : List MV} {vs : List V} (h : Reps K ρ H xs vs) {i : Nat} {x : MV} (e : xs[i]? = some x) : ∃ v, vs[i]? = some v ∧ Rep K ρ H x v := by
  induction xs generalizing vs i with
  | nil => simp at e
  | cons y xs ih =>
    cases h with
    | cons a b =>
      cases i with
      | zero => simp at e; subst e; exact ⟨_, rfl, a⟩
      | succ i => simpa using ih b (by simpa using e)
theorem Reps.set {xs : List MV} {vs : List V} (h : Reps K ρ H xs vs) {x : MV} {v : V} (r : Rep K ρ H x v) (i : Nat) : Reps K ρ H (xs.set i x) (vs.set i v) := by
  induction xs generalizing vs i with
  | nil => cases h; exact .nil
  | cons y xs ih =>
    cases h with
    | cons a b =>
      cases i with
      | zero => exact .cons r b
      | succ i => exact .cons a (ih b i)
theorem Reps.append {xs ys : List MV} {vs ws : List V} (h : Reps K ρ H xs vs) (g : Reps K ρ H ys ws) : Reps K ρ H (xs ++ ys) (vs ++ ws) := by
  induction xs generalizing vs with
  | nil => cases h; exact g
  | cons y xs ih => cases h with | cons a b => exact .cons a (ih b)
theorem Reps.take {xs : List MV} {vs : List V} (h : Reps K ρ H xs vs) (n : Nat) : Reps K ρ H (xs.take n) (vs.take n) := by
  induction xs generalizing vs n with
  | nil => cases h; simp; exact .nil
  | cons y xs ih =>
    cases h with
    | cons a b =>
      cases n with
      | zero => exact .nil
      | succ i => exact .cons a (ih b i)
theorem Reps.drop {xs : List MV} {vs : List V} (h : Reps K ρ H xs vs) (n : Nat) : Reps K ρ H (xs.drop n) (vs.drop n) := by
  induction xs generalizing vs n with
  | nil => cases h; simp; exact .nil
  | cons y xs ih =>
    cases h with
    | cons a b =>
      cases n with
      | zero => exact .cons a b
      | succ i => exact ih b i
theorem Reps.one {x : MV} {v : V} (h : Rep K ρ H x v) : Reps K ρ H [x] [v] := .cons h .nil
theorem Reps.reverse {xs : List MV} {vs : List V} (h : Reps K ρ H xs vs) : Reps K ρ H xs.reverse vs.reverse := by
  induction xs generalizing vs with
  | nil => cases h; exact .nil
  | cons y xs ih => cases h with | cons a b => simp only [List.reverse_cons]; exact (ih b).append (.one a)
theorem Reps.flatRep {xs : List MV} {vs : List V} (h : Reps K ρ H xs vs) (n : Nat) : Reps K ρ H (List.replicate n xs).flatten (List.replicate n vs).flatten := by
  induction n with
  | zero => exact .nil
  | succ n ih => simp only [List.replicate_succ, List.flatten_cons]; exact h.append ih
theorem Reps.eraseIdx {xs : List MV} {vs : List V} (h : Reps K ρ H xs vs) (i : Nat) : Reps K ρ H (xs.eraseIdx i) (vs.eraseIdx i) := by
  rw [List.eraseIdx_eq_take_drop_succ, List.eraseIdx_eq_take_drop_succ]
  exact (h.take _).append (h.drop _)
theorem Reps.dropLast {xs : List MV} {vs : List V} (h : Reps K ρ H xs vs) : Reps K ρ H xs.dropLast vs.dropLast := by
  rw [List.dropLast_eq_take, List.dropLast_eq_take, h.length]; exact h.take _
theorem KReps.length {xs : List (Key × MV)} {vs : List (Key × V)} (h : KReps K ρ H xs vs) : xs.length = vs.length := by
  induction h with
  | nil => rfl
  | cons _ _ ih => simp [ih]
/-- ints read off -/
theorem Reps.ints : ∀ {xs : List MV} {vs : List V} {ns : List Int}, Reps K ρ H xs vs → allInts xs = some ns → vs = ns.map V.int
  | [], _, _, h, e => by cases h; simp [allInts] at e; subst e; rfl
  | x :: xs, _, _, h, e => by
    cases h with
    | cons a b =>
      cases a with
      | int i =>
        simp only [allInts] at e
        cases q : allInts xs with
        | none => rw [q] at e; cases e
        | some ms => rw [q] at e; simp at e; subst e; simp [Reps.ints b q]
      | _ => simp [allInts] at e
theorem Reps.bls : ∀ {xs : List MV} {vs : List V} {ns : List Bool}, Reps K ρ H xs vs → allBls xs = some ns → vs = ns.map V.bl
  | [], _, _, h, e => by cases h; simp [allBls] at e; subst e; rfl
  | x :: xs, _, _, h, e => by
    cases h with
    | cons a b =>
      cases a with
      | bl i =>
        simp only [allBls] at e
        cases q : allBls xs with
        | none => rw [q] at e; cases e
        | some ms => rw [q] at e; simp at e; subst e; simp [Reps.bls b q]
      | _ => simp [allBls] at e
theorem Reps.ofInts (ns : List Int) : Reps K ρ H (ns.map .int) (ns.map V.int) := by
  induction ns with
  | nil => exact .nil
  | cons n ns ih => exact .cons (.int n) ih
end
section
variable {K : PySem.W.Frag} {ρ : List Addr} {mh : MH} {H : Hp}
theorem RepH.get (R : RepH K ρ mh H) {a : Nat} {o : MO} (e : mh[a]? = some o) : ∃ p, ρ[a]? = some p ∧ RepO K ρ H o p := by
  have hl : a < mh.length := (List.getElem?_eq_some_iff.mp e).1
  have hl' : a < ρ.length := by rw [R.len]; exact hl
  exact ⟨ρ[a], List.getElem?_eq_getElem hl', R.obj a _ o (List.getElem?_eq_getElem hl') e⟩
theorem RepH.lst (R : RepH K ρ mh H) {a : Nat} {xs : List MV} {p : Addr} (h : ρ[a]? = some p) (e : mh[a]? = some (.lst xs)) : ∃ vs, H p = some (.lst vs) ∧ Reps K ρ H xs vs := R.obj a p _ h e
theorem RepH.dct (R : RepH K ρ mh H) {a : Nat} {xs : List (Key × MV)} {p : Addr} (h : ρ[a]? = some p) (e : mh[a]? = some (.dct xs)) : ∃ vs, H p = some (.dK vs) ∧ KReps K ρ H xs vs := R.obj a p _ h e
theorem RepH.lsts (R : RepH K ρ mh H) {a : Nat} {xs : List MV} {p : Addr} (h : ρ[a]? = some p) (e : lsts mh a = some xs) : ∃ vs, SqL K H p vs ∧ Reps K ρ H xs vs := by
  unfold Mn.lsts at e
  split at e
  · cases e
    obtain ⟨vs, h1, h2⟩ := R.lst h (by assumption)
    exact ⟨vs, .of h1, h2⟩
  · cases e
    obtain ⟨vs, h1, h2⟩ := R.obj a p _ h (by assumption)
    exact ⟨vs, h1.seq, h2⟩
  · cases e
/-- a new object -/
theorem RepH.push (R : RepH K ρ mh H) {p : Addr} {o : MO} {ho : HO} (hn : H p = none) (hm : o.mut = true) (new : ∀ H', (∀ q, q ≠ p → H' q = H q) → H' p = some ho → RepO K (ρ ++ [p]) H' o p) :
    RepH K (ρ ++ [p]) (mh ++ [o]) (upd H p ho) ∧ Stp ρ mh H (ρ ++ [p]) (mh ++ [o]) (upd H p ho) := by
  have muN : ∀ q, Mu ρ mh q → q ≠ p := fun q m e => by
    subst e
    rcases R.mu m with ⟨_, z⟩ | ⟨_, z⟩ <;> (rw [hn] at z; cases z)
  have ht : ∀ q vs, SqT K H q vs → SqT K (upd H p ho) q vs := fun q vs h => by
    rcases h with h | h
    · refine .inl ?_
      rcases h with h | ⟨u, h⟩
      · exact .inl (by rw [upd_ne (ne_of_none h hn)]; exact h)
      · exact .inr ⟨u, by rw [upd_ne (ne_of_none h hn)]; exact h⟩
    · exact .inr h
  have hl : ∀ q vs, FzL K H q vs → FzL K (upd H p ho) q vs := fun q vs h => h.at fun o u e => by rw [upd_ne (ne_of_none e hn)]; exact e
  have pre : ρ <+: ρ ++ [p] := List.prefix_append _ _
  have split : ∀ (a : Nat) (q : Addr) (u : MO), (ρ ++ [p])[a]? = some q → (mh ++ [o])[a]? = some u → (ρ[a]? = some q ∧ mh[a]? = some u) ∨ (a = ρ.length ∧ q = p ∧ u = o) := fun a q u e1 e2 => by
    by_cases h : a < ρ.length
    · rw [List.getElem?_append_left h] at e1
      rw [List.getElem?_append_left (by rw [← R.len]; exact h)] at e2
      exact .inl ⟨e1, e2⟩
    · have h1 : a < (ρ ++ [p]).length := (List.getElem?_eq_some_iff.mp e1).1
      have h2 : a = ρ.length := by simp at h1; omega
      subst h2
      simp at e1
      rw [R.len] at e2
      simp at e2
      exact .inr ⟨rfl, e1.symm, e2.symm⟩
  refine ⟨⟨by simp [R.len], fun a b q oa ob e1 e2 e3 e4 m1 m2 => ?_, fun a q u e1 e2 => ?_⟩, pre, fun q m => ?_, fun q u nm e => by rw [upd_ne (ne_of_none e hn)]; exact e⟩
  · rcases split a q oa e1 e3 with ⟨h1, h2⟩ | ⟨rfl, rfl, rfl⟩
    · rcases split b q ob e2 e4 with ⟨h3, h4⟩ | ⟨rfl, rfl, rfl⟩
      · exact R.inj a b q oa ob h1 h3 h2 h4 m1 m2
      · exact absurd rfl (muN q ⟨a, oa, h1, h2, m1⟩)
    · rcases split b q ob e2 e4 with ⟨h3, h4⟩ | ⟨rfl, _, rfl⟩
      · exact absurd rfl (muN q ⟨b, ob, h3, h4, m2⟩)
      · rfl
  · rcases split a q u e1 e2 with ⟨h1, h2⟩ | ⟨rfl, rfl, rfl⟩
    · have h := R.obj a q u h1 h2
      cases u with
      | lst xs => obtain ⟨vs, z, r⟩ := h; exact ⟨vs, by rw [upd_ne (ne_of_none z hn)]; exact z, Reps.mono' pre ht _ _ r⟩
      | fro xs => obtain ⟨vs, z, r⟩ := h; exact ⟨vs, hl _ _ z, Reps.mono' pre ht _ _ r⟩
      | dct xs => obtain ⟨vs, z, r⟩ := h; exact ⟨vs, by rw [upd_ne (ne_of_none z hn)]; exact z, KReps.mono' pre ht r⟩
    · exact new _ (fun q hq => upd_ne hq) upd_same
  · obtain ⟨a, u, e1, e2, e3⟩ := m
    rcases split a q u e1 e2 with ⟨h1, h2⟩ | ⟨_, rfl, _⟩
    · exact .inl ⟨a, u, h1, h2, e3⟩
    · exact .inr hn
theorem Reps.updNew {H : Hp} {p : Addr} {ho : HO} {xs : List MV} {vs : List V} (hn : H p = none) (h : Reps K ρ H xs vs) : Reps K ρ (upd H p ho) xs vs := Reps.mono' (List.prefix_refl _) (fun q ws h => by
    rcases h with h | h
    · refine .inl ?_
      rcases h with h | ⟨u, h⟩
      · exact .inl (by rw [upd_ne (ne_of_none h hn)]; exact h)
      · exact .inr ⟨u, by rw [upd_ne (ne_of_none h hn)]; exact h⟩
    · exact .inr h) _ _ h
theorem RepH.pushL (R : RepH K ρ mh H) {p : Addr} {xs : List MV} {vs : List V} (hn : H p = none) (r : Reps K ρ H xs vs) :
    RepH K (ρ ++ [p]) (mh ++ [.lst xs]) (upd H p (.lst vs)) ∧ Stp ρ mh H (ρ ++ [p]) (mh ++ [.lst xs]) (upd H p (.lst vs)) ∧ Rep K (ρ ++ [p]) (upd H p (.lst vs)) (.ref mh.length) (.ref p) := by
  obtain ⟨a, b⟩ := R.push (o := .lst xs) (ho := .lst vs) hn rfl (fun H' h1 h2 => ⟨vs, h2, by
    refine Reps.mono' (List.prefix_append _ _) (fun q ws h => ?_) _ _ r
    rcases h with h | h
    · refine .inl ?_
      rcases h with h | ⟨u, h⟩
      · exact .inl (by rw [h1 q (ne_of_none h hn)]; exact h)
      · exact .inr ⟨u, by rw [h1 q (ne_of_none h hn)]; exact h⟩
    · exact .inr h⟩)
  exact ⟨a, b, .ref (by rw [← R.len]; simp)⟩
/-- a new tuple: it takes no place -/
theorem RepH.tupl (R : RepH K ρ mh H) {p : Addr} {xs : List MV} {vs : List V} (hn : H p = none) (r : Reps K ρ H xs vs) :
    RepH K ρ mh (upd H p (.tup vs)) ∧ Stp ρ mh H ρ mh (upd H p (.tup vs)) ∧ Rep K ρ (upd H p (.tup vs)) (.tup xs) (.ref p) := by
  have ht : ∀ q vs', SqT K H q vs' → SqT K (upd H p (.tup vs)) q vs' := fun q vs' h => by
    rcases h with h | h
    · refine .inl ?_
      rcases h with h | ⟨u, h⟩
      · exact .inl (by rw [upd_ne (ne_of_none h hn)]; exact h)
      · exact .inr ⟨u, by rw [upd_ne (ne_of_none h hn)]; exact h⟩
    · exact .inr h
  have hl : ∀ q vs', FzL K H q vs' → FzL K (upd H p (.tup vs)) q vs' := fun q vs' h => h.at fun o u e => by rw [upd_ne (ne_of_none e hn)]; exact e
  refine ⟨⟨R.len, R.inj, fun a q o e1 e2 => ?_⟩, ⟨List.prefix_refl _, fun q m => .inl m, fun q u _ e => by rw [upd_ne (ne_of_none e hn)]; exact e⟩, .tup (.of upd_same) (Reps.mono' (List.prefix_refl _) ht _ _ r)⟩
  have h := R.obj a q o e1 e2
  cases o with
  | lst xs => obtain ⟨vs, z, r⟩ := h; exact ⟨vs, by rw [upd_ne (ne_of_none z hn)]; exact z, Reps.mono' (List.prefix_refl _) ht _ _ r⟩
  | fro xs => obtain ⟨vs, z, r⟩ := h; exact ⟨vs, hl _ _ z, Reps.mono' (List.prefix_refl _) ht _ _ r⟩
  | dct xs => obtain ⟨vs, z, r⟩ := h; exact ⟨vs, by rw [upd_ne (ne_of_none z hn)]; exact z, KReps.mono' (List.prefix_refl _) ht r⟩
/-- a list or a dict is written -/
theorem RepH.set (R : RepH K ρ mh H) {a : Nat} {p : Addr} {o o' : MO} {ho : HO} (hp : ρ[a]? = some p) (e : mh[a]? = some o) (hm : o.mut = true) (hm' : o'.mut = true)
    (new : ∀ H', (∀ q vs, SqT K H q vs → SqT K H' q vs) → H' p = some ho → RepO K ρ H' o' p) :
    RepH K ρ (mh.set a o') (upd H p ho) ∧ Stp ρ mh H ρ (mh.set a o') (upd H p ho) := by
  have hz := R.mu ⟨a, o, hp, e, hm⟩
  have ht : ∀ q vs', SqT K H q vs' → SqT K (upd H p ho) q vs' := fun q vs' h => by
    rcases h with h | h
    · refine .inl ?_
      have ne : q ≠ p := fun z => by
        subst z
        rcases hz with ⟨_, z⟩ | ⟨_, z⟩ <;> (rcases h with h | ⟨o, h⟩ <;> (rw [z] at h; cases h))
      rcases h with h | ⟨u, h⟩
      · exact .inl (by rw [upd_ne ne]; exact h)
      · exact .inr ⟨u, by rw [upd_ne ne]; exact h⟩
    · exact .inr h
  have hla : a < mh.length := (List.getElem?_eq_some_iff.mp e).1
  refine ⟨⟨by simp [R.len], fun i j q oa ob e1 e2 e3 e4 m1 m2 => ?_, fun i q u e1 e2 => ?_⟩, List.prefix_refl _, fun q m => ?_, fun q u nm h => ?_⟩
  · have f : ∀ i (u : MO), (mh.set a o')[i]? = some u → u.mut = true → ∃ u' : MO, mh[i]? = some u' ∧ u'.mut = true := fun i u h m => by
      by_cases hi : i = a
      · subst hi; exact ⟨o, e, hm⟩
      · rw [List.getElem?_set_ne (Ne.symm hi)] at h; exact ⟨u, h, m⟩
    obtain ⟨oa', h3, n1⟩ := f i oa e3 m1
    obtain ⟨ob', h4, n2⟩ := f j ob e4 m2
    exact R.inj i j q oa' ob' e1 e2 h3 h4 n1 n2
  · by_cases hi : i = a
    · subst hi
      rw [hp] at e1; cases e1
      rw [List.getElem?_set_self hla] at e2; cases e2
      exact new _ ht upd_same
    · rw [List.getElem?_set_ne (Ne.symm hi)] at e2
      have h := R.obj i q u e1 e2
      have nq : u.mut = true → q ≠ p := fun m z => by
        subst z
        exact hi (R.inj i a q u o e1 hp e2 e m hm)
      cases u with
      | lst xs => obtain ⟨vs, z, r⟩ := h; exact ⟨vs, by rw [upd_ne (nq rfl)]; exact z, Reps.mono' (List.prefix_refl _) ht _ _ r⟩
      | fro xs =>
        obtain ⟨vs, z, r⟩ := h
        refine ⟨vs, z.at fun u w e => ?_, Reps.mono' (List.prefix_refl _) ht _ _ r⟩
        have ne : q ≠ p := fun y => by
          subst y
          rcases hz with ⟨_, y⟩ | ⟨_, y⟩ <;> (rw [y] at e; cases e)
        rw [upd_ne ne]; exact e
      | dct xs => obtain ⟨vs, z, r⟩ := h; exact ⟨vs, by rw [upd_ne (nq rfl)]; exact z, KReps.mono' (List.prefix_refl _) ht r⟩
  · obtain ⟨i, u, h1, h2, h3⟩ := m
    by_cases hi : i = a
    · subst hi; rw [hp] at h1; cases h1; exact .inl ⟨i, o, hp, e, hm⟩
    · rw [List.getElem?_set_ne (Ne.symm hi)] at h2; exact .inl ⟨i, u, h1, h2, h3⟩
  · have ne : q ≠ p := fun z => by subst z; exact nm ⟨a, o, hp, e, hm⟩
    rw [upd_ne ne]; exact h
end
end Mn

set_option maxHeartbeats 4000000
/-! Ops: operators, comparisons, subscripts, built-ins, methods: what the small evaluator says, the model does. -/
namespace Mn
open PySem PySem.Spec PyProof.Rows L2

def Post (K : PySem.W.Frag) (ρ : List Addr) (mh : MH) (H : Hp) (mv : MV) (mh' : MH) (Q : VK) : Prop :=
  ∀ v H' ρ', RepH K ρ' mh' H' → Rep K ρ' H' mv v → Stp ρ mh H ρ' mh' H' → Q v H'
section
variable {K : PySem.W.Frag} {ρ ρ1 : List Addr} {mh m1 mh' : MH} {H H1 : Hp} {mv : MV} {Q : VK}
theorem Post.same (P : Post K ρ mh H mv mh Q) (R : RepH K ρ mh H) {v : V} (h : Rep K ρ H mv v) : Q v H := P v H ρ R h .refl
theorem Post.after (P : Post K ρ mh H mv mh' Q) (S : Stp ρ mh H ρ1 m1 H1) : Post K ρ1 m1 H1 mv mh' Q := fun v H' ρ' a b c => P v H' ρ' a b (S.trans c)
theorem lineM_le : lineM ≤ sizeLine := by rw [sizeLine_eq]; decide
theorem Post.newL {xs : List MV} {vs : List V} (P : Post K ρ mh H (.ref mh.length) (mh ++ [.lst xs]) Q) (R : RepH K ρ mh H) (h : Reps K ρ H xs vs) {p : Addr} (hn : H p = none) : Q (.ref p) (upd H p (.lst vs)) := by
  obtain ⟨a, b, c⟩ := R.pushL hn h
  exact P _ _ _ a c b
theorem Post.newT {xs : List MV} {vs : List V} (P : Post K ρ mh H (.tup xs) mh Q) (R : RepH K ρ mh H) (h : Reps K ρ H xs vs) {p : Addr} (hn : H p = none) : Q (.ref p) (upd H p (.tup vs)) := by
  obtain ⟨a, b, c⟩ := R.tupl hn h
  exact P _ _ _ a c b
/-! ### trees -/
mutual
theorem dV_dp (f : Nat → Option PyData) (hf : ∀ a p d, ρ[a]? = some p → f a = some d → Dp K H (.ref p) d) : ∀ (x : MV) (v : V) (d : PyData), Rep K ρ H x v → dV f x = some d → Dp K H v d
  | .non, _, _, h, e => by cases h; simp [dV] at e; subst e; exact .non
  | .bl _, _, _, h, e => by cases h; simp [dV] at e; subst e; exact .bl _
  | .int _, _, _, h, e => by cases h; simp [dV] at e; subst e; exact .int _
  | .str _, _, _, h, e => by cases h; simp [dV] at e; subst e; exact .str _
  | .ref a, _, _, h, e => by cases h with | ref r => exact hf a _ _ r (by simpa [dV] using e)
  | .tup xs, _, _, h, e => by
    cases h with
    | tup s r =>
      simp only [dV] at e
      cases q : dVs f xs with
      | none => rw [q] at e; cases e
      | some ds => rw [q] at e; cases e; exact .tup s (dVs_dp f hf xs _ ds r q)
theorem dVs_dp (f : Nat → Option PyData) (hf : ∀ a p d, ρ[a]? = some p → f a = some d → Dp K H (.ref p) d) : ∀ (xs : List MV) (vs : List V) (ds : List PyData), Reps K ρ H xs vs → dVs f xs = some ds → DpAll K H vs ds
  | [], _, _, h, e => by cases h; simp [dVs] at e; subst e; exact .nil
  | x :: xs, _, _, h, e => by
    cases h with
    | cons a b =>
      simp only [dVs] at e
      split at e
      · cases e; exact .cons (dV_dp f hf x _ _ a (by assumption)) (dVs_dp f hf xs _ _ b (by assumption))
      · cases e
end
theorem snapR_dp (R : RepH K ρ mh H) : ∀ (n : Nat) (a : Nat) (p : Addr) (d : PyData), ρ[a]? = some p → snapR mh n a = some d → Dp K H (.ref p) d
  | 0, _, _, _, _, e => by simp [snapR] at e
  | n + 1, a, p, d, h, e => by
    simp only [snapR] at e
    have go : ∀ xs, lsts mh a = some xs → (dVs (snapR mh n) xs).map PyData.list = some d → Dp K H (.ref p) d := fun xs hx e => by
      obtain ⟨vs, h1, h2⟩ := R.lsts h hx
      cases q : dVs (snapR mh n) xs with
      | none => rw [q] at e; cases e
      | some ds => rw [q] at e; cases e; exact .lst h1 (dVs_dp _ (snapR_dp R n) xs _ ds h2 q)
    split at e
    · exact go _ (by unfold lsts; rw [‹mh[a]? = _›]) e
    · exact go _ (by unfold lsts; rw [‹mh[a]? = _›]) e
    · cases e
theorem snap_dp (R : RepH K ρ mh H) {x : MV} {v : V} {d : PyData} (h : Rep K ρ H x v) (e : snap mh x = some d) : Dp K H v d := dV_dp _ (snapR_dp R 6) x v d h e
theorem dV_flat {f g : Nat → Option PyData} {x : MV} (h : flatM x = true) : dV f x = dV g x := by cases x <;> simp_all [flatM, dV]
theorem flat_rep {x : MV} {v : V} (h : Rep K ρ H x v) (e : flatM x = true) : flatV v = true := by cases h <;> first | rfl | simp [flatM] at e
theorem eqF_rep {x y : MV} {v w : V} (h : Rep K ρ H x v) (g : Rep K ρ H y w) (e : flatM x = true) (e' : flatM y = true) : eqV v w = eqF x y := by
  cases h <;> cases g <;> simp [flatM] at e e' <;> simp [eqF, snap, dV, eqV, PyData.eqv, V.int.injEq]
end

section
variable {X : Cx} {K : PySem.W.Frag}
theorem binS {op : Operator} {mx my mv : MV} {mh mh' : MH} (e : binM op mx my mh = .ok mv mh') :
    ∃ r, OpR X (binaryOp op) r ∧ ∀ ρ H x y, RepH X.K ρ mh H → Rep X.K ρ H mx x → Rep X.K ρ H my y → ∀ Q, Post X.K ρ mh H mv mh' Q → r x y H Q := by
  have hl := lineM_le
  unfold binM at e
  split at e
  · cases e; exact ⟨_, op_add, fun ρ H x y R hx hy Q P => by cases hx; cases hy; exact ⟨_, _, rfl, rfl, P.same R (.int _)⟩⟩
  · split at e
    · cases e; exact ⟨_, op_add_str, fun ρ H x y R hx hy Q P => by cases hx; cases hy; exact ⟨_, _, rfl, rfl, by omega, P.same R (.str _)⟩⟩
    · cases e
  · split at e
    · cases e
      refine ⟨_, op_catA, fun ρ H x y R hx hy Q P => ?_⟩
      cases hx with
      | tup s1 r1 =>
        cases hy with
        | tup s2 r2 =>
          have l1 := r1.length; have l2 := r2.length
          refine ⟨_, _, _, _, rfl, rfl, s1, s2, by omega, fun z => ?_, fun _ z => ?_, fun _ _ p hn => P.newT R (r1.append r2) hn⟩
          · subst z; cases r1; exact P.same R (.tup s2 (by simpa using r2))
          · subst z; cases r2; exact P.same R (.tup s1 (by simpa using r1))
    · cases e
  · split at e
    · split at e
      · cases e
        rename_i a b _ _ xs ys ea eb hle
        refine ⟨_, op_cat, fun ρ H x y R hx hy Q P => ?_⟩
        cases hx with
        | ref h1 =>
          cases hy with
          | ref h2 =>
            obtain ⟨vs, f1, r1⟩ := R.lst h1 ea
            obtain ⟨ws, f2, r2⟩ := R.lst h2 eb
            have l1 := r1.length; have l2 := r2.length
            exact ⟨_, _, _, _, rfl, rfl, f1, f2, by omega, fun p hn => P.newL R (r1.append r2) hn⟩
      · cases e
    · cases e
  · cases e; exact ⟨_, op_sub, fun ρ H x y R hx hy Q P => by cases hx; cases hy; exact ⟨_, _, rfl, rfl, P.same R (.int _)⟩⟩
  · split at e
    · cases e; exact ⟨_, op_mul, fun ρ H x y R hx hy Q P => by cases hx; cases hy; exact ⟨_, _, rfl, rfl, (by unfold CMul; omega), P.same R (.int _)⟩⟩
    · cases e
  · split at e
    · split at e
      · cases e
        rename_i a k _ xs ea hc
        refine ⟨_, op_rep, fun ρ H x y R hx hy Q P => ?_⟩
        cases hx with
        | ref h1 =>
          cases hy
          obtain ⟨vs, f1, r1⟩ := R.lst h1 ea
          have l1 := r1.length
          exact ⟨_, _, _, rfl, rfl, f1, hc.1, hc.2.1, (by rw [← l1]; omega), fun p hn => P.newL R (r1.flatRep _) hn⟩
      · cases e
    · cases e
  · split at e
    · cases e
      rename_i hc
      refine ⟨_, op_repT, fun ρ H x y R hx hy Q P => ?_⟩
      cases hx with
      | tup s1 r1 =>
        cases hy
        have l1 := r1.length
        exact ⟨_, _, _, rfl, rfl, s1, (fun z => by subst z; cases r1; exact hc.2.2.2 rfl), hc.1, hc.2.1, by omega, fun p hn => P.newT R (r1.flatRep _) hn⟩
    · cases e
  · split at e
    · cases e
      rename_i hc
      exact ⟨_, op_fdiv, fun ρ H x y R hx hy Q P => by cases hx; cases hy; exact ⟨_, _, rfl, rfl, hc, P.same R (.int _)⟩⟩
    · cases e
  · split at e
    · cases e
      rename_i hc
      exact ⟨_, op_mod, fun ρ H x y R hx hy Q P => by cases hx; cases hy; exact ⟨_, _, rfl, rfl, hc, P.same R (.int _)⟩⟩
    · cases e
  · split at e
    · cases e
      rename_i hc
      exact ⟨_, op_pow, fun ρ H x y R hx hy Q P => by cases hx; cases hy; exact ⟨_, _, rfl, rfl, hc, P.same R (.int _)⟩⟩
    · cases e
  · split at e
    · cases e
      rename_i hc
      exact ⟨_, op_shl, fun ρ H x y R hx hy Q P => by cases hx; cases hy; exact ⟨_, _, rfl, rfl, hc, P.same R (.int _)⟩⟩
    · cases e
  · split at e
    · cases e
      rename_i hc
      exact ⟨_, op_shr, fun ρ H x y R hx hy Q P => by cases hx; cases hy; exact ⟨_, _, rfl, rfl, hc, P.same R (.int _)⟩⟩
    · cases e
  · cases e; exact ⟨_, op_and, fun ρ H x y R hx hy Q P => by cases hx; cases hy; exact ⟨_, _, rfl, rfl, P.same R (.int _)⟩⟩
  · cases e; exact ⟨_, op_or, fun ρ H x y R hx hy Q P => by cases hx; cases hy; exact ⟨_, _, rfl, rfl, P.same R (.int _)⟩⟩
  · cases e; exact ⟨_, op_xor, fun ρ H x y R hx hy Q P => by cases hx; cases hy; exact ⟨_, _, rfl, rfl, P.same R (.int _)⟩⟩
  · cases e
end
end Mn

set_option maxHeartbeats 4000000
/-! Ops2: comparisons, truth, subscripts, slices, stores. -/
namespace Mn
open PySem PySem.Spec PyProof.Rows L2
section
variable {K : PySem.W.Frag} {ρ : List Addr} {mh : MH} {H : Hp}
theorem anyF {x : MV} {v : V} (h : Rep K ρ H x v) (e : flatM x = true) : ∀ {ys : List MV} {vs : List V}, Reps K ρ H ys vs → ys.all flatM = true → vs.all flatV = true ∧ inV v vs = ys.any fun z => eqF z x
  | [], _, r, _ => by cases r; exact ⟨rfl, rfl⟩
  | y :: ys, _, r, q => by
    cases r with
    | cons a b =>
      simp only [List.all_cons, Bool.and_eq_true] at q
      obtain ⟨h1, h2⟩ := anyF h e b q.2
      refine ⟨by simp only [List.all_cons, Bool.and_eq_true]; exact ⟨flat_rep a q.1, h1⟩, ?_⟩
      unfold inV at h2 ⊢
      rw [List.any_cons, List.any_cons, h2, eqF_rep a h q.1 e]
theorem getK_rep {k : Key} {xs : List (Key × MV)} {vs : List (Key × V)} (h : KReps K ρ H xs vs) : (∀ m, getK k xs = some m → ∃ v, valV vs k = some v ∧ Rep K ρ H m v) ∧ (getK k xs = none → valV vs k = none) := by
  induction h with
  | nil => exact ⟨fun m e => by simp [getK] at e, fun _ => rfl⟩
  | @cons j x v xs vs a b ih =>
    by_cases e : j = k
    · subst e
      refine ⟨fun m q => ?_, fun q => ?_⟩
      · simp [getK] at q; subst q; exact ⟨v, by simp [valV], a⟩
      · simp [getK] at q
    · have e1 : getK k ((j, x) :: xs) = getK k xs := by simp [getK, e]
      have e2 : valV ((j, v) :: vs) k = valV vs k := by simp [valV, e]
      rw [e1, e2]; exact ih
theorem putK_rep {k : Key} {x : MV} {v : V} (r : Rep K ρ H x v) {xs : List (Key × MV)} {vs : List (Key × V)} (h : KReps K ρ H xs vs) : KReps K ρ H (Mn.putK k x xs) (L2.putK vs k v) := by
  have ha : (xs.any fun kv => decide (kv.1 = k)) = vs.any fun kv => decide (kv.1 = k) := by
    induction h with
    | nil => rfl
    | cons _ _ ih => simp [ih]
  unfold Mn.putK L2.putK
  rw [ha]
  split
  · rename_i hh
    clear ha hh
    induction h with
    | nil => exact .nil
    | @cons j y u xs vs a b ih =>
      simp only [List.map_cons]
      by_cases e : j = k
      · simp only [e, if_true]; exact .cons r ih
      · simp only [e, if_false]; exact .cons a ih
  · rename_i hh
    clear ha hh
    induction h with
    | nil => exact .cons r .nil
    | cons a _ ih => exact .cons a ih
theorem keyOf_rep {x : MV} {v : V} {k : Key} (h : Rep K ρ H x v) (e : keyOf x = some k) : v = kV k := by
  cases h <;> simp [keyOf] at e <;> subst e <;> rfl
theorem truV (R : RepH K ρ mh H) {x : MV} {v : V} {b : Bool} (h : Rep K ρ H x v) (e : truth mh x = some b) : TruV K v H b := by
  cases h with
  | non => simp [truth] at e; subst e; rfl
  | bl c => simp [truth] at e; subst e; rfl
  | int i => simp [truth] at e; subst e; rfl
  | str s =>
    simp only [truth] at e
    split at e
    · cases e; refine ⟨Nat.le_trans (by assumption) lineM_le, ?_⟩; cases q : s.length <;> simp; omega
    · cases e
  | tup s r => simp only [truth, Option.some.injEq] at e; subst e; refine .inr (.inl ⟨_, s, ?_⟩); cases r <;> rfl
  | ref h =>
    simp only [truth] at e
    split at e
    · cases e; obtain ⟨vs, h1, h2⟩ := R.lst h (by assumption); exact .inl ⟨vs, .of h1, by cases h2 <;> rfl⟩
    · cases e; obtain ⟨vs, h1, h2⟩ := R.obj _ _ _ h (by assumption); exact .inl ⟨vs, h1.seq, by cases h2 <;> rfl⟩
    · cases e; obtain ⟨vs, h1, h2⟩ := R.dct h (by assumption); exact .inr (.inr ⟨vs, h1, by cases h2 <;> rfl⟩)
    · cases e
end
section
variable {X : Cx}
/-- in and not in of a dict, by values -/
theorem op_in_dict (hu : X.A.units + 1 < cLine) : OpR X (compareOp .In) (fun y x H Q => ∃ a o, x = .ref a ∧ DGet H a y o ∧ Q (.bl o.isSome) H) := by
  intro pins s σ H y x iv u Q I ry rx q
  obtain ⟨a, ov, ex, g, q2⟩ := q
  subst ex
  obtain rfl : u = Value.ref a := rx
  exact d_in hu I g ry fun s3 I3 => ⟨.bl ov.isSome, H, I3, rfl, q2⟩
theorem op_notIn_dict (hu : X.A.units + 1 < cLine) : OpR X (compareOp .NotIn) (fun y x H Q => ∃ a o, x = .ref a ∧ DGet H a y o ∧ Q (.bl (!o.isSome)) H) := by
  intro pins s σ H y x iv u Q I ry rx q
  obtain ⟨a, ov, ex, g, q2⟩ := q
  subst ex
  obtain rfl : u = Value.ref a := rx
  exact d_notIn hu I g ry fun s3 I3 => ⟨.bl (!ov.isSome), H, I3, rfl, q2⟩
def CmpS (X : Cx) (op : CmpOp) (mx my : MV) (mh : MH) (b : Bool) : Prop :=
  ∃ r, OpR X (compareOp op) r ∧ ∀ ρ H x y, RepH X.K ρ mh H → Rep X.K ρ H mx x → Rep X.K ρ H my y → ∀ Q : VK, Q (.bl b) H → r x y H Q
theorem eqS (hu : X.A.units + 64 < cLine) {mx my : MV} {mh : MH} {b : Bool} (e : eqM mh mx my = some b) : CmpS X .Eq mx my mh b := by
  unfold eqM at e
  split at e
  · rename_i s1 s2 h1 h2
    have e1 : mx = .str s1 := by cases mx <;> simp [strOf] at h1; rw [h1]
    have e2 : my = .str s2 := by cases my <;> simp [strOf] at h2; rw [h2]
    subst e1 e2
    cases e
    refine ⟨_, op_eq, fun ρ H x y R hx hy Q q => ?_⟩
    cases hx
    cases hy
    exact ⟨rfl, by simpa using q⟩
  · unfold eqD at e
    split at e
    · split at e
      · cases e
        rename_i d f h1 h2 h3
        rw [Bool.and_eq_true] at h3
        exact ⟨_, op_eqD hu, fun ρ H x y R hx hy Q q => ⟨d, f, snap_dp R hx h1, snap_dp R hy h2, h3.1, h3.2, q⟩⟩
      · cases e
    · cases e
theorem neS (hu : X.A.units + 64 < cLine) {mx my : MV} {mh : MH} {b : Bool} (e : eqM mh mx my = some b) : CmpS X .NotEq mx my mh (!b) := by
  unfold eqM at e
  split at e
  · rename_i s1 s2 h1 h2
    have e1 : mx = .str s1 := by cases mx <;> simp [strOf] at h1; rw [h1]
    have e2 : my = .str s2 := by cases my <;> simp [strOf] at h2; rw [h2]
    subst e1 e2
    cases e
    refine ⟨_, op_ne, fun ρ H x y R hx hy Q q => ?_⟩
    cases hx
    cases hy
    exact ⟨rfl, by simpa using q⟩
  · unfold eqD at e
    split at e
    · split at e
      · cases e
        rename_i d f h1 h2 h3
        rw [Bool.and_eq_true] at h3
        exact ⟨_, op_neD hu, fun ρ H x y R hx hy Q q => ⟨d, f, snap_dp R hx h1, snap_dp R hy h2, h3.1, h3.2, q⟩⟩
      · cases e
    · cases e
theorem inS (hu : X.A.units + 65 < cLine) {mx my : MV} {mh : MH} {b : Bool} (e : inM mh mx my = some b) : CmpS X .In mx my mh b ∧ CmpS X .NotIn mx my mh (!b) := by
  have hu1 : X.A.units + 1 < cLine := by omega
  unfold inM at e
  split at e
  · split at e
    · cases e
      rename_i ys hc
      rw [Bool.and_eq_true] at hc
      refine ⟨⟨_, op_in_seq, fun ρ H x y R hx hy Q q => ?_⟩, ⟨_, op_notIn_seq, fun ρ H x y R hx hy Q q => ?_⟩⟩
      all_goals
        cases hy with
        | tup s r =>
          obtain ⟨h1, h2⟩ := anyF hx hc.1 r hc.2
          refine ⟨_, _, rfl, .inr s, flat_rep hx hc.1, h1, ?_⟩
          simp only [h2, Bool.false_eq_true, if_false, if_true]; exact q
    · cases e
  · split at e
    · rename_i a _ kvs hd
      cases hk : keyOf mx with
      | none => rw [hk] at e; cases e
      | some k =>
        rw [hk] at e; cases e
        refine ⟨⟨_, op_in_dict hu1, fun ρ H x y R hx hy Q q => ?_⟩, ⟨_, op_notIn_dict hu1, fun ρ H x y R hx hy Q q => ?_⟩⟩
        all_goals
          cases hy with
          | ref hp =>
            obtain ⟨vs, h1, h2⟩ := R.dct hp hd
            have hv := keyOf_rep hx hk
            subst hv
            refine ⟨_, valV vs k, rfl, .k h1, ?_⟩
            obtain ⟨g1, g2⟩ := getK_rep (k := k) h2
            dsimp only at q
            cases z : getK k kvs with
            | none => rw [g2 z]; rw [z] at q; exact q
            | some m => obtain ⟨v, g, _⟩ := g1 m z; rw [g]; rw [z] at q; exact q
    · split at e
      · rename_i a _ ys hl
        split at e
        · cases e
          rename_i hc
          rw [Bool.and_eq_true] at hc
          refine ⟨⟨_, op_in_seq, fun ρ H x y R hx hy Q q => ?_⟩, ⟨_, op_notIn_seq, fun ρ H x y R hx hy Q q => ?_⟩⟩
          all_goals
            cases hy with
            | ref hp =>
              obtain ⟨vs, s, r⟩ := R.lsts hp hl
              obtain ⟨h1, h2⟩ := anyF hx hc.1 r hc.2
              refine ⟨_, _, rfl, .inl s, flat_rep hx hc.1, h1, ?_⟩
              simp only [h2, Bool.false_eq_true, if_false, if_true]; exact q
        · split at e
          · split at e
            · cases e
              rename_i d ds h1 h2 h3
              rw [Bool.and_eq_true] at h3
              refine ⟨⟨_, op_inD hu, fun ρ H x y R hx hy Q q => ?_⟩, ⟨_, op_notInD hu, fun ρ H x y R hx hy Q q => ?_⟩⟩
              all_goals
                cases hy with
                | ref hp =>
                  obtain ⟨vs, s, r⟩ := R.lsts hp hl
                  exact ⟨d, ds, snap_dp R hx h1, .lst s (dVs_dp _ (snapR_dp R 5) _ _ _ r h2), h3.1, h3.2, q⟩
            · cases e
          · cases e
      · cases e
  · split at e
    · cases e
      refine ⟨⟨_, op_in_str, fun ρ H x y R hx hy Q q => ?_⟩, ⟨_, op_notin_str, fun ρ H x y R hx hy Q q => ?_⟩⟩ <;> (cases hx; cases hy; exact ⟨_, _, rfl, rfl, q⟩)
    · cases e
  · cases e
theorem cmpS (hu : X.A.units + 65 < cLine) {op : CmpOp} {mx my : MV} {mh : MH} {b : Bool} (e : cmpM op mx my mh = some b) : CmpS X op mx my mh b := by
  have mapN : ∀ {o : Option Bool}, o.map (!·) = some b → o = some (!b) := fun {o} h => by cases o <;> simp_all
  cases op
  case Eq => exact eqS (by omega) e
  case NotEq => have := neS (X := X) (by omega) (mapN e); simpa using this
  case In => exact (inS hu e).1
  case NotIn => have := (inS hu (mapN e)).2; simpa using this
  case Lt =>
    simp only [cmpM] at e
    split at e
    · cases e; exact ⟨_, op_lt, fun ρ H x y R hx hy Q q => by cases hx; cases hy; exact ⟨_, _, rfl, rfl, q⟩⟩
    · cases e
  case LtE =>
    simp only [cmpM] at e
    split at e
    · cases e; exact ⟨_, op_le, fun ρ H x y R hx hy Q q => by cases hx; cases hy; exact ⟨_, _, rfl, rfl, q⟩⟩
    · cases e
  case Gt =>
    simp only [cmpM] at e
    split at e
    · cases e; exact ⟨_, op_gt, fun ρ H x y R hx hy Q q => by cases hx; cases hy; exact ⟨_, _, rfl, rfl, q⟩⟩
    · cases e
  case GtE =>
    simp only [cmpM] at e
    split at e
    · cases e; exact ⟨_, op_ge, fun ρ H x y R hx hy Q q => by cases hx; cases hy; exact ⟨_, _, rfl, rfl, q⟩⟩
    · cases e
  case Is =>
    simp only [cmpM] at e
    split at e
    · cases e
      refine ⟨_, op_isN, fun ρ H x y R hx hy Q q => ?_⟩
      cases hy
      refine ⟨rfl, ?_⟩
      have : decide (x = V.non) = decide (mx = MV.non) := by cases hx <;> simp
      rw [this]; exact q
    · cases e
  case IsNot =>
    simp only [cmpM] at e
    split at e
    · cases e
      refine ⟨_, op_notN, fun ρ H x y R hx hy Q q => ?_⟩
      cases hy
      refine ⟨rfl, ?_⟩
      have : decide (x = V.non) = decide (mx = MV.non) := by cases hx <;> simp
      rw [this]; exact q
    · cases e
/-! ### subscripts -/
theorem atI_rep {K : PySem.W.Frag} {ρ : List Addr} {H : Hp} {xs : List MV} {vs : List V} {i : Int} {m : MV} (h : Reps K ρ H xs vs) (e : atI xs i = some m) : ∃ v, atI vs i = some v ∧ Rep K ρ H m v := by
  unfold atI at e ⊢
  rw [← h.length]
  cases q : ixN xs.length i with
  | none => rw [q] at e; cases e
  | some j => rw [q] at e; exact h.get e
theorem ixS {mx my mv : MV} {mh mh' : MH} (e : ixM mx my mh = .ok mv mh') (nd : ∀ a kvs, mx = .ref a → mh[a]? ≠ some (.dct kvs)) :
    mh' = mh ∧ ∀ ρ H x y, RepH X.K ρ mh H → Rep X.K ρ H mx x → Rep X.K ρ H my y → ∀ Q : VK, (∀ v, Rep X.K ρ H mv v → Q v H) → rIx X.K x y H Q := by
  have hl := lineM_le
  have oO : ∀ {o : Option MV}, ofO o mh = .ok mv mh' → o = some mv ∧ mh' = mh := fun {o} h => by cases o <;> simp [ofO] at h; exact ⟨by rw [h.1], h.2.symm⟩
  unfold ixM at e
  split at e
  · obtain ⟨e2, rfl⟩ := oO e
    refine ⟨rfl, fun ρ H x y R hx hy Q q => ?_⟩
    cases hx with
    | tup s r =>
      cases hy
      obtain ⟨v, h1, h2⟩ := atI_rep r e2
      exact .inr (.inl ⟨_, _, _, _, rfl, rfl, s, h1, q v h2⟩)
  · split at e
    · rename_i a _ kvs h; exact absurd h (nd a kvs rfl)
    · split at e
      · rename_i a _ xs i hl' 
        obtain ⟨e2, rfl⟩ := oO e
        refine ⟨rfl, fun ρ H x y R hx hy Q q => ?_⟩
        cases hx with
        | ref hp =>
          cases hy
          obtain ⟨vs, s, r⟩ := R.lsts hp (by assumption)
          obtain ⟨v, h1, h2⟩ := atI_rep r e2
          exact .inl ⟨_, _, _, _, rfl, rfl, s, h1, q v h2⟩
      · cases e
  · split at e
    · rename_i z i hz
      obtain ⟨e2, rfl⟩ := oO e
      refine ⟨rfl, fun ρ H x y R hx hy Q q => ?_⟩
      cases hx; cases hy
      cases w : atI z.cps.toList i with
      | none => rw [w] at e2; cases e2
      | some c => rw [w] at e2; cases e2; exact .inr (.inr ⟨z, i, c, rfl, rfl, by omega, w, q _ (.str _)⟩)
    · cases e
  · cases e
theorem ixSd {a : Nat} {kvs : List (Key × MV)} {my mv : MV} {mh mh' : MH} (e : ixM (.ref a) my mh = .ok mv mh') (hd : mh[a]? = some (.dct kvs)) :
    mh' = mh ∧ ∀ ρ H x y, RepH X.K ρ mh H → Rep X.K ρ H (.ref a) x → Rep X.K ρ H my y → ∃ p v, x = .ref p ∧ DGet H p y (some v) ∧ Rep X.K ρ H mv v := by
  simp only [ixM, hd] at e
  split at e
  · rename_i k hk
    cases w : getK k kvs with
    | none => rw [w] at e; simp [ofO] at e
    | some m =>
      rw [w] at e
      simp only [ofO, R.ok.injEq] at e
      obtain ⟨rfl, rfl⟩ := e
      refine ⟨rfl, fun ρ H x y R hx hy => ?_⟩
      cases hx with
      | ref hp =>
        obtain ⟨vs, h1, h2⟩ := R.dct hp hd
        obtain ⟨v, g, r⟩ := (getK_rep h2).1 m w
        have := keyOf_rep hy hk
        subst this
        exact ⟨_, v, rfl, by rw [← g]; exact .k h1, r⟩
  · cases e
/-! ### slices -/
theorem cut_rep {K : PySem.W.Frag} {ρ : List Addr} {H : Hp} {xs : List MV} {vs : List V} (h : Reps K ρ H xs vs) (lo hi : Option Int) : Reps K ρ H (cutM xs lo hi) (cutV vs lo hi) := by
  unfold cutM cutV
  rw [h.length]
  exact (h.drop _).take _
theorem slS {mx mv : MV} {lo hi : Option Int} {mh mh' : MH} (e : slM mx lo hi mh = .ok mv mh') :
    ∃ r, L2.SlR X r ∧ ∀ ρ H x, RepH X.K ρ mh H → Rep X.K ρ H mx x → ∀ Q : VK, Post X.K ρ mh H mv mh' Q → r x lo hi H Q := by
  have hl := lineM_le
  unfold slM at e
  split at e
  · cases e
    rename_i xs
    refine ⟨_, sl_tupA, fun ρ H x R hx Q P => ?_⟩
    cases hx with
    | tup s r =>
      refine ⟨_, _, rfl, s, fun z => ?_, fun _ p hn => P.newT R (cut_rep r lo hi) hn⟩
      refine P.same R ?_
      have h1 : cutM xs lo hi = xs := by
        unfold cutM
        rw [r.length, z.1, z.2, ← r.length]
        simp
      rw [h1]; exact .tup s r
  · split at e
    · cases e
      rename_i a xs hl'
      refine ⟨_, sl_list, fun ρ H x R hx Q P => ?_⟩
      cases hx with
      | ref hp =>
        obtain ⟨vs, s, r⟩ := R.lsts hp hl'
        exact ⟨_, _, rfl, s, fun p hn => P.newL R (cut_rep r lo hi) hn⟩
    · cases e
  · split at e
    · cases e
      exact ⟨_, sl_str, fun ρ H x R hx Q P => by cases hx; exact ⟨_, rfl, by omega, P.same R (.str _)⟩⟩
    · cases e
  · cases e
/-! ### stores -/
theorem setS (hu : X.A.units + 1 < cLine) {mo mi mv : MV} {mh mh' : MH} (e : setM mo mi mv mh = some mh') :
    ∃ t, PSet X t ∧ ∀ ρ H o i v, RepH X.K ρ mh H → Rep X.K ρ H mo o → Rep X.K ρ H mi i → Rep X.K ρ H mv v → ∀ Q : Hp → Prop, (∀ H', RepH X.K ρ mh' H' → Stp ρ mh H ρ mh' H' → Q H') → t o i v H Q := by
  have hl := lineM_le
  unfold setM at e
  split at e
  · rename_i a
    split at e
    · rename_i xs ea
      split at e
      · rename_i i
        cases w : ixN xs.length i with
        | none => rw [w] at e; cases e
        | some j =>
          rw [w] at e
          simp only [Option.bind_some] at e
          split at e
          · cases e
            refine ⟨_, set_list, fun ρ H o i v R ho hi hv Q q => ?_⟩
            cases ho with
            | ref hp =>
              cases hi
              obtain ⟨vs, h1, r⟩ := R.lst hp ea
              obtain ⟨b1, b2⟩ := R.set (o' := .lst (xs.set j mv)) (ho := .lst (vs.set j v)) hp ea rfl rfl (fun H' k e' => ⟨_, e', Reps.mono' (List.prefix_refl _) k _ _ (r.set hv j)⟩)
              exact ⟨_, _, _, _, rfl, rfl, h1, by rw [← r.length]; exact w, q _ b1 b2⟩
          · cases e
      · cases e
    · rename_i kvs ea
      cases hk : keyOf mi with
      | none => rw [hk] at e; cases e
      | some k =>
        rw [hk] at e
        simp only [Option.bind_some] at e
        split at e
        · cases e
          refine ⟨_, set_dict hu, fun ρ H o i v R ho hi hv Q q => ?_⟩
          cases ho with
          | ref hp =>
            obtain ⟨vs, h1, r⟩ := R.dct hp ea
            have := keyOf_rep hi hk
            subst this
            have ln := r.length
            obtain ⟨b1, b2⟩ := R.set (o' := .dct (Mn.putK k mv kvs)) (ho := .dK (L2.putK vs k v)) hp ea rfl rfl (fun H' k' e' => ⟨_, e', KReps.mono' (List.prefix_refl _) k' (putK_rep hv r)⟩)
            exact ⟨_, _, rfl, .k h1 (by omega), q _ b1 b2⟩
        · cases e
    · cases e
  · cases e
end
end Mn

set_option maxHeartbeats 4000000
/-! Ops3: built-in functions, methods, isinstance. -/
namespace Mn
open PySem PySem.Spec PyProof.Rows L2
/-- the name, and the value behind it -/
def Bi.nm : Bi → Str
  | .len => "len" | .sum => "sum" | .sorted => "sorted" | .tuple => "tuple" | .list => "list" | .int => "int" | .str => "str" | .repr => "repr" | .all => "all" | .any => "any" | .min => "min" | .max => "max" | .abs => "abs"
def Bi.val : Bi → Value
  | .len => .builtin "len" | .sum => .builtin "sum" | .sorted => .builtin "sorted" | .tuple => .type "tuple" | .list => .type "list" | .int => .type "int" | .str => .type "str" | .repr => .builtin "repr" | .all => .builtin "all" | .any => .builtin "any"
  | .min => .builtin "min" | .max => .builtin "max" | .abs => .builtin "abs"
def Ty.nm : Ty → Str
  | .int => "int" | .bool => "bool" | .str => "str" | .tuple => "tuple" | .list => "list" | .dict => "dict"
def Ty.tn : Ty → String
  | .int => "int" | .bool => "bool" | .str => "str" | .tuple => "tuple" | .list => "list" | .dict => "dict"
section
variable {X : Cx}
/-- repr of any data -/
theorem call_reprD (hg : X.A.guards = some []) (hu : X.A.units + 100 < cLine) : CallR X (.builtin "repr") (fun xs H Q => ∃ x d s, xs = [x] ∧ Dp X.K H x d ∧ reprD d = some s ∧ Q (.str s) H) := by
  intro pins s σ H xs us Q I r h
  obtain ⟨x, d, z, rfl, hd, hz, q⟩ := h
  obtain ⟨u, rfl, hr⟩ := vals1 r
  unfold reprD at hz
  split at hz
  · rename_i hc
    cases hz
    obtain ⟨h1, h2, h3, h4⟩ := hc
    have hl := lineM_le
    obtain ⟨as, rd⟩ := Dp.reads I d x u hd hr
    have fin : ∀ (h' : Heap) (t : Tok) (tk : Nat), (∀ b o, s.heap.get? b = some o → h'.get? b = some o) → EP X pins σ Q (.str d.shown t) { s with heap := h', toks := tk } := fun h' t tk k =>
      ⟨.str d.shown, H, I.kept (t' := tk) k, ⟨t, rfl⟩, q⟩
    cases x with
    | non => cases hd; cases hr; exact PySem.P.repr_of_none (fin s.heap _ _ fun _ _ e => e)
    | bl b => cases hd; cases hr; exact PySem.P.repr_of_bool (fin s.heap _ _ fun _ _ e => e)
    | int i => cases hd; obtain ⟨t, rfl⟩ := hr; exact PySem.P.repr_of_int (by simpa [PyData.showable] using h1) (fin s.heap _ _ fun _ _ e => e)
    | str y => cases hd; obtain ⟨t, rfl⟩ := hr; exact PySem.P.repr_of_str (fin s.heap _ _ fun _ _ e => e) (Nat.le_trans h4 hl)
    | ref a => cases hr; exact repr_of_reads' rd h1 (fun z => by rw [h2] at z; cases z) hg (by omega) (fun _ _ e => e) (fun h' t tk k => fin h' t tk k) (by omega)
    | byt _ => cases hd
    | flt _ => cases hd
    | ty _ => cases hd
  · cases hz
theorem lsts_some {mh : MH} {a : Nat} {f : List MV → Option α} {b : α} (e : (lsts mh a).bind f = some b) : ∃ xs, lsts mh a = some xs ∧ f xs = some b := by
  cases h : lsts mh a with
  | none => rw [h] at e; cases e
  | some xs => rw [h] at e; exact ⟨xs, rfl, e⟩
/-- min(xs), max(xs) of a list or a tuple of ints -/
def rMinS (K : PySem.W.Frag) (f : Int → List Int → Int) : List V → Hp → VK → Prop := fun vs H Q => ∃ (a : Addr) (n : Int) (ns : List Int), vs = [V.ref a] ∧ (SqL K H a ((n :: ns).map V.int) ∨ SqT K H a ((n :: ns).map V.int)) ∧ Q (.int (f n ns)) H
theorem cr_minS (hc : X.calm = true) (hu : X.A.units + 100 < cLine) : CallR X (.builtin "min") (rMinS X.K PySem.W.minOf) := by
  intro pins s σ H vs us Q I r h
  obtain ⟨a, n, ns, rfl, hs, q⟩ := h
  rw [Vals.ref1 r]
  have hu' : X.A.units + 1 + PySem.W.Datum.depth Int < cLine := by show X.A.units + 1 + 0 < cLine; omega
  have fin : ∀ (v : Value) (h' : Heap) (tk : Nat), PySem.W.Holds h' v (PySem.W.minOf n ns) → (∀ b o, s.heap.get? b = some o → h'.get? b = some o) → EP X pins σ Q v { s with heap := h', toks := tk } := fun v h' tk hv hk => by
    obtain ⟨as, rd⟩ := hv
    cases rd with
    | int _ t => exact ⟨.int _, H, I.kept hk, ⟨t, rfl⟩, q⟩
  rcases hs with hs | hs
  · obtain ⟨its, rv, hl, _⟩ := I.list hs
    exact PySem.W.min_list_datum (I.ok.hd hc) hl.isList (PySem.W.HoldAll.of_ints (by simpa using rv.ints)) hu' fun i v h' tk _ hv hk => fin v h' tk hv hk
  · obtain ⟨its, rv, hl, _⟩ := I.tuple hs
    exact PySem.W.min_tuple_datum (I.ok.hd hc) hl (PySem.W.HoldAll.of_ints (by simpa using rv.ints)) hu' fun i v h' tk _ hv hk => fin v h' tk hv hk
theorem cr_maxS (hc : X.calm = true) (hu : X.A.units + 100 < cLine) : CallR X (.builtin "max") (rMinS X.K PySem.W.maxOf) := by
  intro pins s σ H vs us Q I r h
  obtain ⟨a, n, ns, rfl, hs, q⟩ := h
  rw [Vals.ref1 r]
  have hu' : X.A.units + 1 + PySem.W.Datum.depth Int < cLine := by show X.A.units + 1 + 0 < cLine; omega
  have fin : ∀ (v : Value) (h' : Heap) (tk : Nat), PySem.W.Holds h' v (PySem.W.maxOf n ns) → (∀ b o, s.heap.get? b = some o → h'.get? b = some o) → EP X pins σ Q v { s with heap := h', toks := tk } := fun v h' tk hv hk => by
    obtain ⟨as, rd⟩ := hv
    cases rd with
    | int _ t => exact ⟨.int _, H, I.kept hk, ⟨t, rfl⟩, q⟩
  rcases hs with hs | hs
  · obtain ⟨its, rv, hl, _⟩ := I.list hs
    exact PySem.W.max_list_datum (I.ok.hd hc) hl.isList (PySem.W.HoldAll.of_ints (by simpa using rv.ints)) hu' fun i v h' tk _ hv hk => fin v h' tk hv hk
  · obtain ⟨its, rv, hl, _⟩ := I.tuple hs
    exact PySem.W.max_tuple_datum (I.ok.hd hc) hl (PySem.W.HoldAll.of_ints (by simpa using rv.ints)) hu' fun i v h' tk _ hv hk => fin v h' tk hv hk
theorem intKeys_rep {K : PySem.W.Frag} {ρ : List Addr} {H : Hp} {kvs : List (Key × MV)} {ws : List (Key × V)} (r : KReps K ρ H kvs ws) : ∀ {ns : List Int}, intKeys kvs = some ns → ws.map (·.1) = ns.map Sum.inl := by
  induction r with
  | nil => intro ns e; simp [intKeys] at e; subst e; rfl
  | @cons k x v xs vs a _ ih =>
    intro ns e
    cases k with
    | inr _ => simp [intKeys] at e
    | inl i =>
      simp only [intKeys] at e
      cases q : intKeys xs with
      | none => rw [q] at e; cases e
      | some ms => rw [q] at e; cases e; simp [ih q]
def BltS (X : Cx) (b : Bi) (vs : List MV) (mh : MH) (mv : MV) (mh' : MH) : Prop :=
  ∃ r, CallR X b.val r ∧ ∀ ρ H ws, RepH X.K ρ mh H → Reps X.K ρ H vs ws → ∀ Q : VK, Post X.K ρ mh H mv mh' Q → r ws H Q
theorem Reps.one' {K : PySem.W.Frag} {ρ : List Addr} {H : Hp} {x : MV} {ws : List V} (h : Reps K ρ H [x] ws) : ∃ v, ws = [v] ∧ Rep K ρ H x v := by
  cases h with | cons a b => cases b; exact ⟨_, rfl, a⟩
theorem Reps.two' {K : PySem.W.Frag} {ρ : List Addr} {H : Hp} {x y : MV} {ws : List V} (h : Reps K ρ H [x, y] ws) : ∃ v w, ws = [v, w] ∧ Rep K ρ H x v ∧ Rep K ρ H y w := by
  cases h with | cons a b => obtain ⟨w, rfl, c⟩ := b.one'; exact ⟨_, _, rfl, a, c⟩
theorem bltS (hc : X.calm = true) (hg : X.A.guards = some []) (hu : X.A.units + 100 < cLine) {b : Bi} {vs : List MV} {mv : MV} {mh mh' : MH} (e : bltM b vs mh = .ok mv mh') : BltS X b vs mh mv mh' := by
  have hl := lineM_le
  unfold bltM at e
  split at e
  · -- len of a text
    split at e
    · cases e
      refine ⟨_, call_len_str, fun ρ H ws R hx Q P => ?_⟩
      obtain ⟨v, rfl, hv⟩ := hx.one'
      cases hv
      exact ⟨_, rfl, by omega, P.same R (.int _)⟩
    · cases e
  · cases e
    refine ⟨_, call_len_seq, fun ρ H ws R hx Q P => ?_⟩
    obtain ⟨v, rfl, hv⟩ := hx.one'
    cases hv with
    | tup s r => refine ⟨_, _, rfl, .inr s, ?_⟩; rw [← r.length]; exact P.same R (.int _)
  · split at e
    · cases e
      refine ⟨_, call_len_seq, fun ρ H ws R hx Q P => ?_⟩
      obtain ⟨v, rfl, hv⟩ := hx.one'
      cases hv with
      | ref hp => obtain ⟨us, h1, r⟩ := R.lst hp (by assumption); refine ⟨_, _, rfl, .inl (.of h1), ?_⟩; rw [← r.length]; exact P.same R (.int _)
    · cases e
      refine ⟨_, call_len_seq, fun ρ H ws R hx Q P => ?_⟩
      obtain ⟨v, rfl, hv⟩ := hx.one'
      cases hv with
      | ref hp => obtain ⟨us, h1, r⟩ := R.obj _ _ _ hp (by assumption); refine ⟨_, _, rfl, .inl h1.seq, ?_⟩; rw [← r.length]; exact P.same R (.int _)
    · cases e
      refine ⟨_, call_lenD, fun ρ H ws R hx Q P => ?_⟩
      obtain ⟨v, rfl, hv⟩ := hx.one'
      cases hv with
      | ref hp => obtain ⟨us, h1, r⟩ := R.dct hp (by assumption); refine ⟨_, _, rfl, h1, ?_⟩; rw [← r.length]; exact P.same R (.int _)
    · cases e
  · split at e
    · cases e
      obtain ⟨xs, h1, h2⟩ := lsts_some (by assumption)
      refine ⟨_, cr_sum hc, fun ρ H ws R hx Q P => ?_⟩
      obtain ⟨v, rfl, hv⟩ := hx.one'
      cases hv with
      | ref hp => obtain ⟨us, s, r⟩ := R.lsts hp h1; have := r.ints h2; subst this; exact ⟨_, _, rfl, s, P.same R (.int _)⟩
    · cases e
  · split at e
    · cases e
      obtain ⟨xs, h1, h2⟩ := lsts_some (by assumption)
      refine ⟨_, cr_all hc, fun ρ H ws R hx Q P => ?_⟩
      obtain ⟨v, rfl, hv⟩ := hx.one'
      cases hv with
      | ref hp => obtain ⟨us, s, r⟩ := R.lsts hp h1; have := r.bls h2; subst this; exact ⟨_, _, rfl, s, P.same R (.bl _)⟩
    · cases e
  · split at e
    · cases e
      obtain ⟨xs, h1, h2⟩ := lsts_some (by assumption)
      refine ⟨_, cr_any hc, fun ρ H ws R hx Q P => ?_⟩
      obtain ⟨v, rfl, hv⟩ := hx.one'
      cases hv with
      | ref hp => obtain ⟨us, s, r⟩ := R.lsts hp h1; have := r.bls h2; subst this; exact ⟨_, _, rfl, s, P.same R (.bl _)⟩
    · cases e
  · cases e
    refine ⟨_, call_tuple_of, fun ρ H ws R hx Q P => ?_⟩
    obtain ⟨v, rfl, hv⟩ := hx.one'
    cases hv with
    | tup s r => exact ⟨_, _, rfl, .inr ⟨s, P.same R (.tup s r)⟩⟩
  · split at e
    · cases e
      refine ⟨_, call_tuple_of, fun ρ H ws R hx Q P => ?_⟩
      obtain ⟨v, rfl, hv⟩ := hx.one'
      cases hv with
      | ref hp => obtain ⟨us, s, r⟩ := R.lsts hp (by assumption); exact ⟨_, _, rfl, .inl ⟨s, fun l hn => P.newT R r hn⟩⟩
    · cases e
  · split at e
    · cases e
      rename_i v _ xs hs
      refine ⟨_, call_list_of, fun ρ H ws R hx Q P => ?_⟩
      obtain ⟨v, rfl, hv⟩ := hx.one'
      cases hv with
      | tup s r => simp only [seqs, Option.some.injEq] at hs; subst hs; exact ⟨_, _, rfl, .inr s, fun l hn => P.newL R r hn⟩
      | ref hp => obtain ⟨us, s, r⟩ := R.lsts hp hs; exact ⟨_, _, rfl, .inl s, fun l hn => P.newL R r hn⟩
      | _ => simp [seqs] at hs
    · cases e
  · cases e
    refine ⟨_, call_int1, fun ρ H ws R hx Q P => ?_⟩
    obtain ⟨v, rfl, hv⟩ := hx.one'
    cases hv; exact .inl ⟨_, rfl, P.same R (.int _)⟩
  · cases e
    refine ⟨_, call_int1, fun ρ H ws R hx Q P => ?_⟩
    obtain ⟨v, rfl, hv⟩ := hx.one'
    cases hv; exact .inr ⟨_, rfl, P.same R (.int _)⟩
  · split at e
    · cases e
      refine ⟨_, call_str_int, fun ρ H ws R hx Q P => ?_⟩
      obtain ⟨v, rfl, hv⟩ := hx.one'
      cases hv; exact ⟨_, rfl, by assumption, P.same R (.str _)⟩
    · cases e
  · cases e
    refine ⟨_, SkE.call_str_str, fun ρ H ws R hx Q P => ?_⟩
    obtain ⟨v, rfl, hv⟩ := hx.one'
    cases hv; exact ⟨_, rfl, P.same R (.str _)⟩
  · split at e
    · cases e
      rename_i v _ s hs
      cases hd : snap mh v with
      | none => rw [hd] at hs; cases hs
      | some d =>
        rw [hd] at hs
        refine ⟨_, call_reprD hg hu, fun ρ H ws R hx Q P => ?_⟩
        obtain ⟨w, rfl, hv⟩ := hx.one'
        exact ⟨_, d, s, rfl, snap_dp R hv hd, hs, P.same R (.str _)⟩
    · cases e
  · cases e
    refine ⟨_, call_abs, fun ρ H ws R hx Q P => ?_⟩
    obtain ⟨v, rfl, hv⟩ := hx.one'
    cases hv; exact ⟨_, rfl, P.same R (.int _)⟩
  · cases e
    refine ⟨_, call_max2 hc, fun ρ H ws R hx Q P => ?_⟩
    obtain ⟨v, w, rfl, hv, hw⟩ := hx.two'
    cases hv; cases hw; exact ⟨_, _, rfl, P.same R (.int _)⟩
  · cases e
    refine ⟨_, call_min2 hc, fun ρ H ws R hx Q P => ?_⟩
    obtain ⟨v, w, rfl, hv, hw⟩ := hx.two'
    cases hv; cases hw; exact ⟨_, _, rfl, P.same R (.int _)⟩
  · split at e
    · cases e
      rename_i mv _ n ns hs
      refine ⟨_, cr_maxS hc hu, fun ρ H ws R hx Q P => ?_⟩
      obtain ⟨v, rfl, hv⟩ := hx.one'
      cases hq : seqs mh mv with
      | none => rw [hq] at hs; cases hs
      | some xs =>
        rw [hq] at hs
        have hs' : allInts xs = some (n :: ns) := hs
        cases hv with
        | tup s r => simp only [seqs, Option.some.injEq] at hq; subst hq; have := r.ints hs'; subst this; exact ⟨_, n, ns, rfl, .inr s, P.same R (.int _)⟩
        | ref hp => obtain ⟨us, s, r⟩ := R.lsts hp hq; have := r.ints hs'; subst this; exact ⟨_, n, ns, rfl, .inl s, P.same R (.int _)⟩
        | _ => simp [seqs] at hq
    · cases e
  · split at e
    · cases e
      rename_i mv _ n ns hs
      refine ⟨_, cr_minS hc hu, fun ρ H ws R hx Q P => ?_⟩
      obtain ⟨v, rfl, hv⟩ := hx.one'
      cases hq : seqs mh mv with
      | none => rw [hq] at hs; cases hs
      | some xs =>
        rw [hq] at hs
        have hs' : allInts xs = some (n :: ns) := hs
        cases hv with
        | tup s r => simp only [seqs, Option.some.injEq] at hq; subst hq; have := r.ints hs'; subst this; exact ⟨_, n, ns, rfl, .inr s, P.same R (.int _)⟩
        | ref hp => obtain ⟨us, s, r⟩ := R.lsts hp hq; have := r.ints hs'; subst this; exact ⟨_, n, ns, rfl, .inl s, P.same R (.int _)⟩
        | _ => simp [seqs] at hq
    · cases e
  · split at e
    · rename_i a kvs hd
      split at e
      · rename_i ns hk
        split at e
        · rename_i h64
          cases e
          refine ⟨_, call_sortedDI hc, fun ρ H ws R hx Q P => ?_⟩
          obtain ⟨v, rfl, hv⟩ := hx.one'
          cases hv with
          | ref hp =>
            obtain ⟨us, s, r⟩ := R.dct hp hd
            refine ⟨_, us, ns, rfl, .of s, intKeys_rep r hk, h64, fun ns' p hp1 hp2 hn => ?_⟩
            have hm : ns' = ns.mergeSort fun x y => decide (x ≤ y) := by
              refine PySem.W.ksm_same (hp1.trans (List.mergeSort_perm _ _).symm) hp2 ?_
              have hs := List.pairwise_mergeSort (le := fun x y : Int => decide (x ≤ y)) (fun a b c h1 h2 => by simp at *; omega) (fun a b => by simp; omega) ns
              exact hs.imp fun h => by simpa using h
            rw [hm]
            exact P.newL R (Reps.ofInts _) hn
        · cases e
      · cases e
    · split at e
      · cases e
        rename_i a _ ns hs
        obtain ⟨xs, h1, h2⟩ := lsts_some hs
        refine ⟨_, cr_sortedI, fun ρ H ws R hx Q P => ?_⟩
        obtain ⟨v, rfl, hv⟩ := hx.one'
        cases hv with
        | ref hp =>
          obtain ⟨us, s, r⟩ := R.lsts hp h1
          have := r.ints h2
          subst this
          refine ⟨_, ns, rfl, s, fun ns' p hp1 hp2 hn => ?_⟩
          have hm : ns' = ns.mergeSort fun x y => decide (x ≤ y) := by
            refine PySem.W.ksm_same (hp1.trans (List.mergeSort_perm _ _).symm) hp2 ?_
            have hs := List.pairwise_mergeSort (le := fun x y : Int => decide (x ≤ y)) (fun a b c h1 h2 => by simp at *; omega) (fun a b => by simp; omega) ns
            exact hs.imp fun h => by simpa using h
          rw [hm]
          exact P.newL R (Reps.ofInts _) hn
      · cases e
  · cases e
/-! ### isinstance -/
theorem isiS {mx : MV} {t : Ty} {mh : MH} {b : Bool} (e : isiM mx t mh = some b) {ρ : List Addr} {H : Hp} {x : V} (R : RepH X.K ρ mh H) (hx : Rep X.K ρ H mx x) : ∃ a : String, TyX X.K H x (.type a) ∧ kitB a t.tn = some b := by
  have k : ∀ (a : String) (c : Bool), kitB a t.tn = some c → ∀ {x}, TyX X.K H x (.type a) → some c = some b → ∃ a : String, TyX X.K H x (.type a) ∧ kitB a t.tn = some b := fun a c h x h2 e => ⟨a, h2, by rw [h]; exact e⟩
  cases hx with
  | non => refine k "NoneType" false ?_ (.base .non) (by simpa [isiM] using e); cases t <;> decide +kernel
  | bl c =>
    cases t
    · exact k "bool" true (by decide +kernel) (.base (.bl _)) e
    · exact k "bool" true (by decide +kernel) (.base (.bl _)) e
    all_goals exact k "bool" false (by decide +kernel) (.base (.bl _)) e
  | int i =>
    cases t
    · exact k "int" true (by decide +kernel) (.base (.int _)) e
    all_goals exact k "int" false (by decide +kernel) (.base (.int _)) e
  | str i =>
    cases t
    case str => exact k "str" true (by decide +kernel) (.base (.str _)) e
    all_goals exact k "str" false (by decide +kernel) (.base (.str _)) e
  | @tup _ p _ s r =>
    have h1 : TyX X.K H (.ref p) (.type "tuple") := by
      rcases s with (s | ⟨o, s⟩) | ⟨o, its, n, s, c, _⟩
      · exact .base (.tup s)
      · exact .fTuple s
      · exact .kTuple s c
    cases t
    case tuple => exact k "tuple" true (by decide +kernel) h1 e
    all_goals exact k "tuple" false (by decide +kernel) h1 e
  | @ref _ p hp =>
    simp only [isiM] at e
    split at e
    · obtain ⟨vs, h1, _⟩ := R.lst hp (by assumption)
      have h1 : TyX X.K H (.ref p) (.type "list") := .base (.lst h1)
      cases t
      case list => exact k "list" true (by decide +kernel) h1 e
      all_goals exact k "list" false (by decide +kernel) h1 e
    · obtain ⟨vs, h1, _⟩ := R.dct hp (by assumption)
      have h1 : TyX X.K H (.ref p) (.type "dict") := .base (.dK h1)
      cases t
      case dict => exact k "dict" true (by decide +kernel) h1 e
      all_goals exact k "dict" false (by decide +kernel) h1 e
    · cases e
/-! ### methods of lists -/
def Me.nm : Me → Str
  | .append => "append" | .extend => "extend" | .pop => "pop" | .insert => "insert" | .count => "count" | .index => "index" | .reverse => "reverse" | .get => "get" | .items => "items" | .join => "join" | .split => "split" | .remove => "remove" | .clear => "clear" | .copy => "copy"
def LmS (X : Cx) (m : Me) (a : Nat) (vs : List MV) (mh : MH) (mv : MV) (mh' : MH) : Prop :=
  ∃ id r, Slot "list" m.nm id ∧ typeOf (.builtin id) = pure (.type "method_descriptor") ∧ MtR X id r ∧ ∀ ρ H p ws, RepH X.K ρ mh H → ρ[a]? = some p → Reps X.K ρ H vs ws → ∀ Q : VK, Post X.K ρ mh H mv mh' Q → r (.ref p) ws H Q
theorem setP {K : PySem.W.Frag} {ρ : List Addr} {mh : MH} {H : Hp} {a : Nat} {p : Addr} {xs ys : List MV} {ws : List V} {mv : MV} {v : V} {Q : VK} (R : RepH K ρ mh H) (hp : ρ[a]? = some p) (e : mh[a]? = some (.lst xs)) (r : Reps K ρ H ys ws)
    (hv : Rep K ρ H mv v) (P : Post K ρ mh H mv (mh.set a (.lst ys)) Q) : Q v (upd H p (.lst ws)) := by
  obtain ⟨b1, b2⟩ := R.set (o' := .lst ys) (ho := .lst ws) hp e rfl rfl (fun H' k e' => ⟨_, e', Reps.mono' (List.prefix_refl _) k _ _ r⟩)
  exact P _ _ _ b1 (hv.stp R b2) b2
theorem lmS (hc : X.calm = true) {m : Me} {a : Nat} {vs : List MV} {mv : MV} {mh mh' : MH} (e : methM m .list (.ref a) vs mh = .ok mv mh') : LmS X m a vs mh mv mh' := by
  have hl := lineM_le
  simp only [methM] at e
  split at e
  · rename_i xs _ ea _
    split at e
    · split at e
      · cases e
        refine ⟨_, _, PySem.F.slot_list_append, PySem.F.type_list_append, mt_append, fun ρ H p ws R hp hx Q P => ?_⟩
        obtain ⟨v, rfl, hv⟩ := hx.one'
        obtain ⟨us, h1, r⟩ := R.lst hp ea
        have ln := r.length
        exact ⟨_, _, _, rfl, rfl, h1, by omega, setP R hp ea (r.append (.one hv)) .non P⟩
      · cases e
    · split at e
      · split at e
        · cases e
          rename_i b ys eb _
          refine ⟨_, _, PySem.F.slot_list_extend, PySem.F.type_list_extend, mt_extend, fun ρ H p ws R hp hx Q P => ?_⟩
          obtain ⟨v, rfl, hv⟩ := hx.one'
          obtain ⟨us, h1, r⟩ := R.lst hp ea
          cases hv with
          | ref hb =>
            obtain ⟨us2, h2, r2⟩ := R.lst hb eb
            have ln := r.length; have ln2 := r2.length
            exact ⟨_, _, _, _, rfl, rfl, h1, h2, by omega, setP R hp ea (r.append r2) .non P⟩
        · cases e
      · cases e
    · split at e
      · cases e
        rename_i y hy
        refine ⟨_, _, PySem.F.slot_list_pop, PySem.F.type_list_pop, mt_pop, fun ρ H p ws R hp hx Q P => ?_⟩
        cases hx
        obtain ⟨us, h1, r⟩ := R.lst hp ea
        obtain ⟨v, g, hv⟩ := r.get hy
        exact ⟨_, _, v, rfl, rfl, h1, by rw [← r.length]; exact g, setP R hp ea r.dropLast hv P⟩
      · cases e
    · split at e
      · cases e
        rename_i i y hy
        split at hy
        · rename_i hi
          refine ⟨_, _, PySem.F.slot_list_pop, PySem.F.type_list_pop, mt_popAt, fun ρ H p ws R hp hx Q P => ?_⟩
          obtain ⟨v, rfl, hv⟩ := hx.one'
          cases hv
          obtain ⟨us, h1, r⟩ := R.lst hp ea
          obtain ⟨v, g, hv⟩ := r.get hy
          have hlt : i.toNat < us.length := (List.getElem?_eq_some_iff.mp g).1
          have hix : ixN us.length i = some i.toNat := by
            unfold ixN
            rw [if_pos hi.1, if_pos (by omega)]
          exact ⟨_, _, _, _, v, rfl, rfl, h1, by omega, by omega, (ixN_seq hix).1, g, setP R hp ea (r.eraseIdx _) hv P⟩
        · cases hy
      · cases e
    · split at e
      · cases e
        rename_i hi
        refine ⟨_, _, PySem.F.slot_list_insert, PySem.F.type_list_insert, mt_insert, fun ρ H p ws R hp hx Q P => ?_⟩
        obtain ⟨v, w, rfl, hv, hw⟩ := hx.two'
        cases hv
        obtain ⟨us, h1, r⟩ := R.lst hp ea
        have ln := r.length
        exact ⟨_, _, _, _, rfl, rfl, h1, by omega, hi.2.1, by omega, setP R hp ea (((r.take _).append (.one hw)).append (r.drop _)) .non P⟩
      · cases e
    · cases e
      refine ⟨_, _, PySem.F.slot_list_reverse, PySem.F.type_list_reverse, mt_reverse, fun ρ H p ws R hp hx Q P => ?_⟩
      cases hx
      obtain ⟨us, h1, r⟩ := R.lst hp ea
      exact ⟨_, _, rfl, rfl, h1, setP R hp ea r.reverse .non P⟩
    · cases e
      refine ⟨_, _, PySem.F.slot_list_clear, PySem.F.type_list_clear, mt_clear, fun ρ H p ws R hp hx Q P => ?_⟩
      cases hx
      obtain ⟨us, h1, r⟩ := R.lst hp ea
      exact ⟨_, _, rfl, rfl, h1, setP R hp ea .nil .non P⟩
    · cases e
  · rename_i h; cases h
  · cases e
end
end Mn

set_option maxHeartbeats 4000000
/-! Snd: expressions: what the small evaluator says, the model does. -/
namespace Mn
open PySem PySem.Spec PyProof.Rows L2

structure RepS (K : PySem.W.Frag) (ρ : List Addr) (H : Hp) (mσ : MS') (σ : L2.St) : Prop where
  len : σ.length = mσ.length
  get : ∀ (i : Nat) (m : MV), mσ[i]? = some (some m) → ∃ v, σ[i]? = some (some v) ∧ Rep K ρ H m v
section
variable {K : PySem.W.Frag} {ρ ρ' : List Addr} {mh mh' : MH} {H H' : Hp} {mσ : MS'} {σ : L2.St}
theorem RepS.stp (S : RepS K ρ H mσ σ) (R : RepH K ρ mh H) (T : Stp ρ mh H ρ' mh' H') : RepS K ρ' H' mσ σ := ⟨S.len, fun i m e => by
  obtain ⟨v, h1, h2⟩ := S.get i m e
  exact ⟨v, h1, h2.stp R T⟩⟩
theorem RepS.set (S : RepS K ρ H mσ σ) {m : MV} {v : V} (r : Rep K ρ H m v) (i : Nat) : RepS K ρ H (mσ.set i (some m)) (σ.set i (some v)) := by
  refine ⟨by simp [S.len], fun j m' e => ?_⟩
  by_cases h : j = i
  · subst h
    by_cases hl : j < mσ.length
    · rw [List.getElem?_set_self hl] at e
      cases e
      rw [List.getElem?_set_self (by rw [S.len]; exact hl)]
      exact ⟨v, rfl, r⟩
    · rw [List.getElem?_eq_none (by simp; omega)] at e; cases e
  · rw [List.getElem?_set_ne (Ne.symm h)] at e ⊢
    exact S.get j m' e
theorem bind_ok {α β : Type} {r : R α} {f : α → MH → R β} {b : β} {h : MH} (e : r.bind f = .ok b h) : ∃ a h1, r = .ok a h1 ∧ f a h1 = .ok b h := by
  cases r with
  | ok a h1 => exact ⟨a, h1, rfl, e⟩
  | exc _ _ _ => cases e
  | bad => cases e
end
section
variable (X : Cx)
def tS (e : Expr) : TE := fun σ H Q => ∃ t, PE X e t ∧ t σ H Q
def tT (e : Expr) : TT := fun σ H Q => ∃ t, PT X e t ∧ t σ H Q
def tW (e : Expr) : TT := fun σ H Q => ∃ t, PW X e t ∧ t σ H Q
def tA (es : List Expr) : TA := fun σ H Q => ∃ t, PA X es t ∧ t σ H Q
def tSS (s : List Stmt) : TS := fun D σ H => ∃ t, PSs X s t ∧ t D σ H
def tS1 (s : Stmt) : TS := fun D σ H => ∃ t, PS X s t ∧ t D σ H
end
section
variable {X : Cx}
theorem pe_tS {e : Expr} : PE X e (tS X e) := ⟨fun pins s σ H Q I ⟨_, h, q⟩ => h.run pins s σ H Q I q⟩
theorem pt_tT {e : Expr} : PT X e (tT X e) := ⟨fun pins s σ H Q I ⟨_, h, q⟩ => h.run pins s σ H Q I q⟩
theorem pw_tW {e : Expr} : PW X e (tW X e) := ⟨fun w pins s σ H Q I ⟨_, h, q⟩ => h.run w pins s σ H Q I q⟩
theorem pa_tA {es : List Expr} : PA X es (tA X es) := ⟨fun p pins s σ H Q I ⟨_, h, q⟩ => h.run p pins s σ H Q I q⟩
theorem pss_tSS {s : List Stmt} : PSs X s (tSS X s) := ⟨fun pins t σ H Q I ⟨_, h, q⟩ => h.run pins t σ H Q I q⟩
theorem ps_tS1 {s : Stmt} : PS X s (tS1 X s) := ⟨fun pins t σ H Q I ⟨_, h, q⟩ => h.run pins t σ H Q I q⟩
end
theorem op_void {X : Cx} {f : Value → Value → Sem Value} : OpR X f (fun _ _ _ _ => False) := fun _ _ _ _ _ _ _ _ _ _ _ _ h => h.elim
def SE (X : Cx) (M : Cm) (e : Expr) (me : ME) : Prop :=
  ∀ σ H mσ mh ρ, RepH X.K ρ mh H → RepS X.K ρ H mσ σ → ∀ mv mh', evE M me mσ mh = .ok mv mh' → ∀ Q, Post X.K ρ mh H mv mh' Q → tS X e σ H Q
def ST (X : Cx) (M : Cm) (e : Expr) (me : ME) : Prop :=
  ∀ σ H mσ mh ρ, RepH X.K ρ mh H → RepS X.K ρ H mσ σ → ∀ mv mh', evE M me mσ mh = .ok mv mh' → ∀ b, truth mh' mv = some b → ∀ Q, (∀ H' ρ', RepH X.K ρ' mh' H' → Stp ρ mh H ρ' mh' H' → Q b H') → tT X e σ H Q
def SW (X : Cx) (M : Cm) (e : Expr) (me : ME) : Prop :=
  ∀ σ H mσ mh ρ, RepH X.K ρ mh H → RepS X.K ρ H mσ σ → ∀ mv mh', evE M me mσ mh = .ok mv mh' → ∀ b, truth mh' mv = some b → ∀ Q, (∀ H' ρ', RepH X.K ρ' mh' H' → Stp ρ mh H ρ' mh' H' → Q b H') → tW X e σ H Q
def SA (X : Cx) (M : Cm) (es : List Expr) (mes : List ME) : Prop :=
  ∀ σ H mσ mh ρ, RepH X.K ρ mh H → RepS X.K ρ H mσ σ → ∀ vs mh', evEs M mes mσ mh = .ok vs mh' → ∀ Q, (∀ ws H' ρ', RepH X.K ρ' mh' H' → Reps X.K ρ' H' vs ws → Stp ρ mh H ρ' mh' H' → Q ws H') → tA X es σ H Q
section
variable {X : Cx} {M : Cm} {a b c : Expr} {ma mb mc : ME} {pos : Pos}
/-! ### constants and names -/
theorem se_c {v : MV} {w : V} (h : PE X a (tC w)) (r : ∀ ρ H, Rep X.K ρ H v w) : SE X M a (.c v) := by
  intro σ H mσ mh ρ R S mv mh' e Q P
  simp only [evE] at e
  cases e
  exact ⟨_, h, P.same R (r ρ H)⟩
theorem se_var {i : Nat} {x : Str} (hN : X.N[i]? = some x) (hv : Vis X.env.scope x) (hd : (x == ("__debug__" : Str)) = false) (hcd : (x == ("__classdict__" : Str)) = false) : SE X M (.Name x pos) (.var i) := by
  intro σ H mσ mh ρ R S mv mh' e Q P
  simp only [evE] at e
  split at e
  · cases e
    obtain ⟨v, h1, h2⟩ := S.get i _ (by assumption)
    exact ⟨_, pe_var hN hv hd hcd, v, h1, P.same R h2⟩
  · cases e
theorem se_glb {x : Str} {u : Value} {w : V} (hg : Gl X x) (hm : X.mg x = some u) (ru : RelV w u) (hd : (x == ("__debug__" : Str)) = false) (r : ∀ v, M.gl x = some v → ∀ ρ H, Rep X.K ρ H v w) : SE X M (.Name x pos) (.glb x) := by
  intro σ H mσ mh ρ R S mv mh' e Q P
  simp only [evE] at e
  cases h : M.gl x with
  | none => rw [h] at e; cases e
  | some v => rw [h] at e; cases e; exact ⟨_, pe_glob hg hm ru hd, P.same R (r _ h ρ H)⟩
/-! ### operators -/
theorem se_bin {op : Operator} (ha : SE X M a ma) (hb : SE X M b mb) : SE X M (.BinOp a op b pos) (.bin op ma mb) := by
  intro σ H mσ mh ρ R S mv mh' e Q P
  simp only [evE] at e
  obtain ⟨x, h1, e1, e⟩ := bind_ok e
  obtain ⟨y, h2, e2, e⟩ := bind_ok e
  obtain ⟨r, hr, hq⟩ := binS (X := X) e
  refine ⟨_, pe_op hr pe_tS pe_tS, ?_⟩
  refine ha σ H mσ mh ρ R S x h1 e1 _ fun v H1 ρ1 R1 r1 S1 => ?_
  refine hb σ H1 mσ h1 ρ1 R1 (S.stp R S1) y h2 e2 _ fun w H2 ρ2 R2 r2 S2 => ?_
  exact hq ρ2 H2 v w R2 (r1.stp R1 S2) r2 Q (P.after (S1.trans S2))
theorem se_neg (ha : SE X M a ma) : SE X M (.UnaryOp .USub a pos) (.neg ma) := by
  intro σ H mσ mh ρ R S mv mh' e Q P
  simp only [evE] at e
  obtain ⟨x, h1, e1, e⟩ := bind_ok e
  refine ⟨_, pe_un un_neg pe_tS, ?_⟩
  refine ha σ H mσ mh ρ R S x h1 e1 _ fun v H1 ρ1 R1 r1 S1 => ?_
  cases x <;> simp only at e <;> cases e
  cases r1
  exact ⟨_, rfl, P _ _ _ R1 (.int _) S1⟩
theorem ofB_ok {o : Option Bool} {h h' : MH} {v : MV} (e : ofB o h = .ok v h') : ∃ b, o = some b ∧ v = .bl b ∧ h' = h := by
  cases o with
  | none => cases e
  | some b => cases e; exact ⟨b, rfl, rfl, rfl⟩
theorem se_cmp (hu : X.A.units + 65 < cLine) {op : CmpOp} (hm : behindInMarks op b = false) (ha : SE X M a ma) (hb : SE X M b mb) : SE X M (.Compare a [op] [b] pos) (.cmp op ma mb) := by
  intro σ H mσ mh ρ R S mv mh' e Q P
  simp only [evE] at e
  obtain ⟨x, h1, e1, e⟩ := bind_ok e
  obtain ⟨y, h2, e2, e⟩ := bind_ok e
  obtain ⟨k, e3, rfl, rfl⟩ := ofB_ok e
  obtain ⟨r, hr, hq⟩ := cmpS (X := X) hu e3
  refine ⟨_, pe_cmpR hr pe_tS pe_tS hm, ?_⟩
  refine ha σ H mσ mh ρ R S x h1 e1 _ fun v H1 ρ1 R1 r1 S1 => ?_
  refine hb σ H1 mσ h1 ρ1 R1 (S.stp R S1) y _ e2 _ fun w H2 ρ2 R2 r2 S2 => ?_
  exact hq ρ2 H2 v w R2 (r1.stp R1 S2) r2 Q (P _ _ _ R2 (.bl _) (S1.trans S2))
theorem se_chain (hu : X.A.units + 65 < cLine) {o1 o2 : CmpOp} (hm : lastMarks [o1, o2] [b, c] = false) (ha : SE X M a ma) (hb : SE X M b mb) (hc : SE X M c mc) : SE X M (.Compare a [o1, o2] [b, c] pos) (.chain o1 o2 ma mb mc) := by
  intro σ H mσ mh ρ R S mv mh' e Q P
  simp only [evE] at e
  obtain ⟨x, h1, e1, e⟩ := bind_ok e
  obtain ⟨y, h2, e2, e⟩ := bind_ok e
  split at e
  · obtain ⟨z, h3, e4, e⟩ := bind_ok e
    obtain ⟨k, e5, rfl, rfl⟩ := ofB_ok e
    obtain ⟨r, hr, hq⟩ := cmpS (X := X) hu ‹cmpM o1 x y h2 = _›
    obtain ⟨r', hr', hq'⟩ := cmpS (X := X) hu e5
    refine ⟨_, pe_chain hr hr' pe_tS pe_tS pe_tS hm, ?_⟩
    refine ha σ H mσ mh ρ R S x h1 e1 _ fun v H1 ρ1 R1 r1 S1 => ?_
    refine hb σ H1 mσ h1 ρ1 R1 (S.stp R S1) y _ e2 _ fun w H2 ρ2 R2 r2 S2 => ?_
    refine hq ρ2 H2 v w R2 (r1.stp R1 S2) r2 _ ⟨_, rfl, ?_⟩
    rw [if_pos rfl]
    refine hc σ H2 mσ h2 ρ2 R2 ((S.stp R S1).stp R1 S2) z _ e4 _ fun w3 H3 ρ3 R3 r3 S3 => ?_
    exact hq' ρ3 H3 w w3 R3 (r2.stp R2 S3) r3 Q (P _ _ _ R3 (.bl _) ((S1.trans S2).trans S3))
  · cases e
    obtain ⟨r, hr, hq⟩ := cmpS (X := X) hu ‹cmpM o1 x y mh' = _›
    refine ⟨_, pe_chain hr op_void pe_tS pe_tS pe_tS hm, ?_⟩
    refine ha σ H mσ mh ρ R S x h1 e1 _ fun v H1 ρ1 R1 r1 S1 => ?_
    refine hb σ H1 mσ h1 ρ1 R1 (S.stp R S1) y _ e2 _ fun w H2 ρ2 R2 r2 S2 => ?_
    refine hq ρ2 H2 v w R2 (r1.stp R1 S2) r2 _ ⟨_, rfl, ?_⟩
    rw [if_neg Bool.false_ne_true]
    exact P _ _ _ R2 (.bl _) (S1.trans S2)
  · cases e
/-! ### truth -/
theorem se_not (ha : SE X M a ma) : SE X M (.UnaryOp .Not a pos) (.not_ ma) := by
  intro σ H mσ mh ρ R S mv mh' e Q P
  simp only [evE] at e
  obtain ⟨x, h1, e1, e⟩ := bind_ok e
  split at e
  · cases e
    refine ⟨_, pe_notT pe_tS, ?_⟩
    refine ha σ H mσ mh ρ R S x _ e1 _ fun v H1 ρ1 R1 r1 S1 => ⟨_, truV R1 r1 (by assumption), P _ _ _ R1 (.bl _) S1⟩
  · cases e
theorem se_and {rest : List Expr} (ha : SE X M a ma) (hb : SE X M (.BoolOp .And (b :: rest) pos) mb) : SE X M (.BoolOp .And (a :: b :: rest) pos) (.and_ ma mb) := by
  intro σ H mσ mh ρ R S mv mh' e Q P
  simp only [evE] at e
  obtain ⟨x, h1, e1, e⟩ := bind_ok e
  refine ⟨_, pe_andT pe_tS pe_tS, ?_⟩
  refine ha σ H mσ mh ρ R S x h1 e1 _ fun v H1 ρ1 R1 r1 S1 => ?_
  split at e
  · refine ⟨_, truV R1 r1 (by assumption), ?_⟩
    rw [if_pos rfl]
    exact hb σ H1 mσ h1 ρ1 R1 (S.stp R S1) mv mh' e Q (P.after S1)
  · cases e
    refine ⟨_, truV R1 r1 (by assumption), ?_⟩
    rw [if_neg Bool.false_ne_true]
    exact P _ _ _ R1 r1 S1
  · cases e
theorem se_or {rest : List Expr} (ha : SE X M a ma) (hb : SE X M (.BoolOp .Or (b :: rest) pos) mb) : SE X M (.BoolOp .Or (a :: b :: rest) pos) (.or_ ma mb) := by
  intro σ H mσ mh ρ R S mv mh' e Q P
  simp only [evE] at e
  obtain ⟨x, h1, e1, e⟩ := bind_ok e
  refine ⟨_, pe_orT pe_tS pe_tS, ?_⟩
  refine ha σ H mσ mh ρ R S x h1 e1 _ fun v H1 ρ1 R1 r1 S1 => ?_
  split at e
  · cases e
    refine ⟨_, truV R1 r1 (by assumption), ?_⟩
    rw [if_pos rfl]
    exact P _ _ _ R1 r1 S1
  · refine ⟨_, truV R1 r1 (by assumption), ?_⟩
    rw [if_neg Bool.false_ne_true]
    exact hb σ H1 mσ h1 ρ1 R1 (S.stp R S1) mv mh' e Q (P.after S1)
  · cases e
theorem se_one {op : BoolOp} (ha : SE X M a ma) : SE X M (.BoolOp op [a] pos) ma := by
  intro σ H mσ mh ρ R S mv mh' e Q P
  obtain ⟨t, h, q⟩ := ha σ H mσ mh ρ R S mv mh' e Q P
  exact ⟨_, pe_one h, q⟩
theorem se_ife (hc : ST X M c mc) (ha : SE X M a ma) (hb : SE X M b mb) : SE X M (.IfExp c a b pos) (.ife mc ma mb) := by
  intro σ H mσ mh ρ R S mv mh' e Q P
  simp only [evE] at e
  obtain ⟨x, h1, e1, e⟩ := bind_ok e
  refine ⟨_, pe_ifExp pt_tT pe_tS pe_tS, ?_⟩
  split at e
  · refine hc σ H mσ mh ρ R S x h1 e1 true (by assumption) _ fun H1 ρ1 R1 S1 => ?_
    rw [if_pos rfl]
    exact ha σ H1 mσ h1 ρ1 R1 (S.stp R S1) mv mh' e Q (P.after S1)
  · refine hc σ H mσ mh ρ R S x h1 e1 false (by assumption) _ fun H1 ρ1 R1 S1 => ?_
    rw [if_neg Bool.false_ne_true]
    exact hb σ H1 mσ h1 ρ1 R1 (S.stp R S1) mv mh' e Q (P.after S1)
  · cases e
/-! ### tests -/
theorem st_plain (ha : SE X M a ma) (he : ∀ whole, isTrue a X.env whole = (do let v ← whole; standAt a.pos; holding [v] (truthy v))) : ST X M a ma := by
  intro σ H mσ mh ρ R S mv mh' e k hk Q P
  refine ⟨_, pt_truth pe_tS he, ?_⟩
  exact ha σ H mσ mh ρ R S mv mh' e _ fun v H1 ρ1 R1 r1 S1 => ⟨k, truV R1 r1 hk, P H1 ρ1 R1 S1⟩
theorem st_not (ha : ST X M a ma) : ST X M (.UnaryOp .Not a pos) (.not_ ma) := by
  intro σ H mσ mh ρ R S mv mh' e k hk Q P
  simp only [evE] at e
  obtain ⟨x, h1, e1, e⟩ := bind_ok e
  split at e
  · cases e
    simp only [truth, Option.some.injEq] at hk
    subst hk
    refine ⟨_, pt_not pt_tT, ?_⟩
    exact ha σ H mσ mh ρ R S x _ e1 _ (by assumption) _ fun H1 ρ1 R1 S1 => P H1 ρ1 R1 S1
  · cases e
theorem st_cmp (hu : X.A.units + 65 < cLine) {op : CmpOp} (hm : behindInMarks op b = false) (ha : SE X M a ma) (hb : SE X M b mb) : ST X M (.Compare a [op] [b] pos) (.cmp op ma mb) := by
  intro σ H mσ mh ρ R S mv mh' e k hk Q P
  simp only [evE] at e
  obtain ⟨x, h1, e1, e⟩ := bind_ok e
  obtain ⟨y, h2, e2, e⟩ := bind_ok e
  obtain ⟨k', e3, rfl, rfl⟩ := ofB_ok e
  simp only [truth, Option.some.injEq] at hk
  subst hk
  obtain ⟨r, hr, hq⟩ := cmpS (X := X) hu e3
  refine ⟨_, pt_cmpR hr pe_tS pe_tS hm, ?_⟩
  refine ha σ H mσ mh ρ R S x h1 e1 _ fun v H1 ρ1 R1 r1 S1 => ?_
  refine hb σ H1 mσ h1 ρ1 R1 (S.stp R S1) y _ e2 _ fun w H2 ρ2 R2 r2 S2 => ?_
  exact hq ρ2 H2 v w R2 (r1.stp R1 S2) r2 _ ⟨_, rfl, P _ _ R2 (S1.trans S2)⟩
theorem st_chain (hu : X.A.units + 65 < cLine) {o1 o2 : CmpOp} (hm : lastMarks [o1, o2] [b, c] = false) (ha : SE X M a ma) (hb : SE X M b mb) (hc : SE X M c mc) : ST X M (.Compare a [o1, o2] [b, c] pos) (.chain o1 o2 ma mb mc) := by
  intro σ H mσ mh ρ R S mv mh' e k hk Q P
  simp only [evE] at e
  obtain ⟨x, h1, e1, e⟩ := bind_ok e
  obtain ⟨y, h2, e2, e⟩ := bind_ok e
  split at e
  · obtain ⟨z, h3, e4, e⟩ := bind_ok e
    obtain ⟨k', e5, rfl, rfl⟩ := ofB_ok e
    simp only [truth, Option.some.injEq] at hk
    subst hk
    obtain ⟨r, hr, hq⟩ := cmpS (X := X) hu ‹cmpM o1 x y h2 = _›
    obtain ⟨r', hr', hq'⟩ := cmpS (X := X) hu e5
    refine ⟨_, pt_chain hr hr' pe_tS pe_tS pe_tS hm, ?_⟩
    refine ha σ H mσ mh ρ R S x h1 e1 _ fun v H1 ρ1 R1 r1 S1 => ?_
    refine hb σ H1 mσ h1 ρ1 R1 (S.stp R S1) y _ e2 _ fun w H2 ρ2 R2 r2 S2 => ?_
    refine hq ρ2 H2 v w R2 (r1.stp R1 S2) r2 _ ⟨_, rfl, ?_⟩
    rw [if_pos rfl]
    refine hc σ H2 mσ h2 ρ2 R2 ((S.stp R S1).stp R1 S2) z _ e4 _ fun w3 H3 ρ3 R3 r3 S3 => ?_
    exact hq' ρ3 H3 w w3 R3 (r2.stp R2 S3) r3 _ ⟨_, rfl, P _ _ R3 ((S1.trans S2).trans S3)⟩
  · cases e
    simp only [truth, Option.some.injEq] at hk
    subst hk
    obtain ⟨r, hr, hq⟩ := cmpS (X := X) hu ‹cmpM o1 x y mh' = _›
    refine ⟨_, pt_chain hr op_void pe_tS pe_tS pe_tS hm, ?_⟩
    refine ha σ H mσ mh ρ R S x h1 e1 _ fun v H1 ρ1 R1 r1 S1 => ?_
    refine hb σ H1 mσ h1 ρ1 R1 (S.stp R S1) y _ e2 _ fun w H2 ρ2 R2 r2 S2 => ?_
    refine hq ρ2 H2 v w R2 (r1.stp R1 S2) r2 _ ⟨_, rfl, ?_⟩
    rw [if_neg Bool.false_ne_true]
    exact ⟨_, rfl, P _ _ R2 (S1.trans S2)⟩
  · cases e
theorem sw_st (h : SW X M a ma) : ST X M a ma := by
  intro σ H mσ mh ρ R S mv mh' e k hk Q P
  obtain ⟨t, h1, q⟩ := h σ H mσ mh ρ R S mv mh' e k hk Q P
  exact ⟨t, h1.pt, q⟩
theorem sw_one {op : BoolOp} (ha : ST X M a ma) : SW X M (.BoolOp op [a] pos) ma := by
  intro σ H mσ mh ρ R S mv mh' e k hk Q P
  obtain ⟨t, h1, q⟩ := ha σ H mσ mh ρ R S mv mh' e k hk Q P
  cases op
  · exact ⟨t, pw_and1 h1, q⟩
  · exact ⟨t, pw_or1 h1, q⟩
theorem sw_and {rest : List Expr} (ha : ST X M a ma) (hb : SW X M (.BoolOp .And (b :: rest) pos) mb) : SW X M (.BoolOp .And (a :: b :: rest) pos) (.and_ ma mb) := by
  intro σ H mσ mh ρ R S mv mh' e k hk Q P
  simp only [evE] at e
  obtain ⟨x, h1, e1, e⟩ := bind_ok e
  refine ⟨_, pw_and pt_tT pw_tW, ?_⟩
  split at e
  · refine ha σ H mσ mh ρ R S x h1 e1 true (by assumption) _ fun H1 ρ1 R1 S1 => ?_
    rw [if_pos rfl]
    exact hb σ H1 mσ h1 ρ1 R1 (S.stp R S1) mv mh' e k hk Q fun H2 ρ2 R2 S2 => P H2 ρ2 R2 (S1.trans S2)
  · cases e
    refine ha σ H mσ mh ρ R S _ _ e1 false (by assumption) _ fun H1 ρ1 R1 S1 => ?_
    rw [if_neg Bool.false_ne_true]
    have : k = false := Option.some.inj (hk.symm.trans ‹truth mh' mv = some false›)
    subst this
    exact P H1 ρ1 R1 S1
  · cases e
theorem sw_or {rest : List Expr} (ha : ST X M a ma) (hb : SW X M (.BoolOp .Or (b :: rest) pos) mb) : SW X M (.BoolOp .Or (a :: b :: rest) pos) (.or_ ma mb) := by
  intro σ H mσ mh ρ R S mv mh' e k hk Q P
  simp only [evE] at e
  obtain ⟨x, h1, e1, e⟩ := bind_ok e
  refine ⟨_, pw_or pt_tT pw_tW, ?_⟩
  split at e
  · cases e
    refine ha σ H mσ mh ρ R S _ _ e1 true (by assumption) _ fun H1 ρ1 R1 S1 => ?_
    rw [if_pos rfl]
    have : k = true := Option.some.inj (hk.symm.trans ‹truth mh' mv = some true›)
    subst this
    exact P H1 ρ1 R1 S1
  · refine ha σ H mσ mh ρ R S x h1 e1 false (by assumption) _ fun H1 ρ1 R1 S1 => ?_
    rw [if_neg Bool.false_ne_true]
    exact hb σ H1 mσ h1 ρ1 R1 (S.stp R S1) mv mh' e k hk Q fun H2 ρ2 R2 S2 => P H2 ρ2 R2 (S1.trans S2)
  · cases e
/-! ### arguments, displays -/
theorem sa_nil : SA X M [] [] := by
  intro σ H mσ mh ρ R S vs mh' e Q P
  simp only [evEs] at e
  cases e
  exact ⟨_, pa_nil, P [] H ρ R .nil .refl⟩
theorem sa_cons {es : List Expr} {mes : List ME} (hs : starEach (a :: es) X.env = (false, eval a X.env) :: starEach es X.env) (ha : SE X M a ma) (hr : SA X M es mes) : SA X M (a :: es) (ma :: mes) := by
  intro σ H mσ mh ρ R S vs mh' e Q P
  simp only [evEs] at e
  obtain ⟨x, h1, e1, e⟩ := bind_ok e
  obtain ⟨xs, h2, e2, e⟩ := bind_ok e
  cases e
  refine ⟨_, pa_cons pe_tS pa_tA hs, ?_⟩
  refine ha σ H mσ mh ρ R S x h1 e1 _ fun v H1 ρ1 R1 r1 S1 => ?_
  exact hr σ H1 mσ h1 ρ1 R1 (S.stp R S1) xs _ e2 _ fun ws H2 ρ2 R2 r2 S2 => P _ H2 ρ2 R2 (.cons (r1.stp R1 S2) r2) (S1.trans S2)
theorem se_tup {es : List Expr} {mes : List ME} {n : Nat} (hn : mes.length ≤ lineM) (h : SA X M es mes) : SE X M (.Tuple es n pos) (.tup mes) := by
  intro σ H mσ mh ρ R S mv mh' e Q P
  simp only [evE] at e
  obtain ⟨xs, h1, e1, e⟩ := bind_ok e
  cases e
  refine ⟨_, pe_tup pa_tA, ?_⟩
  have hl := lineM_le
  have hlen : ∀ {mes : List ME} {mσ : MS'} {mh : MH} {xs : List MV} {h1 : MH}, evEs M mes mσ mh = .ok xs h1 → xs.length = mes.length := by
    intro mes
    induction mes with
    | nil => intro _ _ _ _ e; simp only [evEs] at e; cases e; rfl
    | cons m ms ih =>
      intro _ _ _ _ e
      simp only [evEs] at e
      obtain ⟨x, h1, e1, e⟩ := bind_ok e
      obtain ⟨xs, h2, e2, e⟩ := bind_ok e
      cases e
      simp [ih e2]
  refine h σ H mσ mh ρ R S xs _ e1 _ fun ws H1 ρ1 R1 r1 S1 => ⟨?_, fun p hp => (P.after S1).newT R1 r1 hp⟩
  rw [← r1.length, hlen e1]; omega
theorem evEs_len {mes : List ME} {mσ : MS'} {mh : MH} {xs : List MV} {h1 : MH} (e : evEs M mes mσ mh = .ok xs h1) : xs.length = mes.length := by
  induction mes generalizing mσ mh xs h1 with
  | nil => simp only [evEs] at e; cases e; rfl
  | cons m ms ih =>
    simp only [evEs] at e
    obtain ⟨x, h1, e1, e⟩ := bind_ok e
    obtain ⟨xs, h2, e2, e⟩ := bind_ok e
    cases e
    simp [ih e2]
theorem se_lst {es : List Expr} {mes : List ME} (hn : mes.length ≤ lineM) (h : SA X M es mes) : SE X M (.List es pos) (.lst mes) := by
  intro σ H mσ mh ρ R S mv mh' e Q P
  simp only [evE] at e
  obtain ⟨xs, h1, e1, e⟩ := bind_ok e
  cases e
  have hl := lineM_le
  refine ⟨_, pe_lst pa_tA, ?_⟩
  refine h σ H mσ mh ρ R S xs _ e1 _ fun ws H1 ρ1 R1 r1 S1 => ⟨?_, fun p hp => (P.after S1).newL R1 r1 hp⟩
  rw [← r1.length, evEs_len e1]; omega
/-! ### subscripts, slices -/
theorem se_ix (hu : X.A.units + 1 < cLine) (hs : PlainIx b) (hs2 : NoSl b) (ha : SE X M a ma) (hb : SE X M b mb) : SE X M (.Subscript a b pos) (.ix ma mb) := by
  intro σ H mσ mh ρ R S mv mh' e Q P
  simp only [evE] at e
  obtain ⟨x, h1, e1, e⟩ := bind_ok e
  obtain ⟨y, h2, e2, e⟩ := bind_ok e
  by_cases hd : ∃ a kvs, x = .ref a ∧ h2[a]? = some (.dct kvs)
  · obtain ⟨i, kvs, rfl, hd⟩ := hd
    obtain ⟨rfl, hq⟩ := ixSd (X := X) e hd
    refine ⟨_, pe_dget hu pe_tS pe_tS hs2, ?_⟩
    refine ha σ H mσ mh ρ R S _ h1 e1 _ fun v H1 ρ1 R1 r1 S1 => ?_
    refine hb σ H1 mσ h1 ρ1 R1 (S.stp R S1) y _ e2 _ fun w H2 ρ2 R2 r2 S2 => ?_
    obtain ⟨p, u, e3, g, r⟩ := hq ρ2 H2 v w R2 (r1.stp R1 S2) r2
    exact ⟨p, u, e3, g, P _ _ _ R2 r (S1.trans S2)⟩
  · obtain ⟨rfl, hq⟩ := ixS (X := X) e fun a kvs e1 e2 => hd ⟨a, kvs, e1, e2⟩
    refine ⟨_, pe_ix ix_seq pe_tS pe_tS hs, ?_⟩
    refine ha σ H mσ mh ρ R S _ h1 e1 _ fun v H1 ρ1 R1 r1 S1 => ?_
    refine hb σ H1 mσ h1 ρ1 R1 (S.stp R S1) y _ e2 _ fun w H2 ρ2 R2 r2 S2 => ?_
    exact hq ρ2 H2 v w R2 (r1.stp R1 S2) r2 Q fun u r => P _ _ _ R2 r (S1.trans S2)
theorem se_sl {p2 : Pos} (ha : SE X M a ma) : SE X M (.Subscript a (.Slice none none none p2) pos) (.sl ma) := by
  intro σ H mσ mh ρ R S mv mh' e Q P
  simp only [evE] at e
  obtain ⟨x, h1, e1, e⟩ := bind_ok e
  obtain ⟨r, hr, hq⟩ := slS (X := X) e
  refine ⟨_, pe_slice hr pe_tS po_none po_none, ?_⟩
  exact ha σ H mσ mh ρ R S _ h1 e1 _ fun v H1 ρ1 R1 r1 S1 => hq ρ1 H1 v R1 r1 Q (P.after S1)
theorem se_slL {p2 : Pos} (ha : SE X M a ma) (hb : SE X M b mb) : SE X M (.Subscript a (.Slice (some b) none none p2) pos) (.slL ma mb) := by
  intro σ H mσ mh ρ R S mv mh' e Q P
  simp only [evE] at e
  obtain ⟨x, h1, e1, e⟩ := bind_ok e
  obtain ⟨y, h2, e2, e⟩ := bind_ok e
  cases y <;> simp only at e <;> try cases e
  obtain ⟨r, hr, hq⟩ := slS (X := X) e
  refine ⟨_, pe_slice hr pe_tS (po_some pe_tS) po_none, ?_⟩
  refine ha σ H mσ mh ρ R S _ h1 e1 _ fun v H1 ρ1 R1 r1 S1 => ?_
  refine hb σ H1 mσ h1 ρ1 R1 (S.stp R S1) _ _ e2 _ fun w H2 ρ2 R2 r2 S2 => ?_
  cases r2
  exact ⟨_, rfl, hq ρ2 H2 v R2 (r1.stp R1 S2) Q (P.after (S1.trans S2))⟩
theorem se_slH {p2 : Pos} (ha : SE X M a ma) (hb : SE X M b mb) : SE X M (.Subscript a (.Slice none (some b) none p2) pos) (.slH ma mb) := by
  intro σ H mσ mh ρ R S mv mh' e Q P
  simp only [evE] at e
  obtain ⟨x, h1, e1, e⟩ := bind_ok e
  obtain ⟨y, h2, e2, e⟩ := bind_ok e
  cases y <;> simp only at e <;> try cases e
  obtain ⟨r, hr, hq⟩ := slS (X := X) e
  refine ⟨_, pe_slice hr pe_tS po_none (po_some pe_tS), ?_⟩
  refine ha σ H mσ mh ρ R S _ h1 e1 _ fun v H1 ρ1 R1 r1 S1 => ?_
  refine hb σ H1 mσ h1 ρ1 R1 (S.stp R S1) _ _ e2 _ fun w H2 ρ2 R2 r2 S2 => ?_
  cases r2
  exact ⟨_, rfl, hq ρ2 H2 v R2 (r1.stp R1 S2) Q (P.after (S1.trans S2))⟩
theorem se_slB {p2 : Pos} (ha : SE X M a ma) (hb : SE X M b mb) (hc : SE X M c mc) : SE X M (.Subscript a (.Slice (some b) (some c) none p2) pos) (.slB ma mb mc) := by
  intro σ H mσ mh ρ R S mv mh' e Q P
  simp only [evE] at e
  obtain ⟨x, h1, e1, e⟩ := bind_ok e
  obtain ⟨y, h2, e2, e⟩ := bind_ok e
  cases y <;> simp only at e <;> try cases e
  obtain ⟨z, h3, e3, e⟩ := bind_ok e
  cases z <;> simp only at e <;> try cases e
  obtain ⟨r, hr, hq⟩ := slS (X := X) e
  refine ⟨_, pe_slice hr pe_tS (po_some pe_tS) (po_some pe_tS), ?_⟩
  refine ha σ H mσ mh ρ R S _ h1 e1 _ fun v H1 ρ1 R1 r1 S1 => ?_
  refine hb σ H1 mσ h1 ρ1 R1 (S.stp R S1) _ _ e2 _ fun w H2 ρ2 R2 r2 S2 => ?_
  cases r2
  refine ⟨_, rfl, hc σ H2 mσ h2 ρ2 R2 ((S.stp R S1).stp R1 S2) _ _ e3 _ fun w3 H3 ρ3 R3 r3 S3 => ?_⟩
  cases r3
  exact ⟨_, rfl, hq ρ3 H3 v R3 ((r1.stp R1 S2).stp R2 S3) Q (P.after ((S1.trans S2).trans S3))⟩
/-! ### built-ins -/
theorem se_blt (hcalm : X.calm = true) (hG : X.A.guards = some []) (hu : X.A.units + 100 < cLine) {bi : Bi} {es : List Expr} {mes : List ME} {p : Pos} (hg : Gl X bi.nm) (hm : X.mg bi.nm = none)
    (he : starEach (a :: es) X.env = (false, eval a X.env) :: starEach es X.env) (hpl : (backTo pos (starEach es X.env)).any (·.1) = false) (h : SA X M (a :: es) mes) : SE X M (.Call (.Name bi.nm p) (a :: es) [] pos) (.blt bi mes) := by
  intro σ H mσ mh ρ R S mv mh' e Q P
  simp only [evE] at e
  obtain ⟨xs, h1, e1, e⟩ := bind_ok e
  obtain ⟨r, hr, hq⟩ := bltS (X := X) hcalm hG hu e
  have fin : tCB r (tA X (a :: es)) σ H Q := h σ H mσ mh ρ R S xs _ e1 _ fun ws H1 ρ1 R1 r1 S1 => hq ρ1 H1 ws R1 r1 Q (P.after S1)
  cases bi
  case tuple => exact ⟨_, pe_callTy hr hg hm (by decide +kernel) pa_tA (by decide) (by decide) he hpl, fin⟩
  case list => exact ⟨_, pe_callTy hr hg hm (by decide +kernel) pa_tA (by decide) (by decide) he hpl, fin⟩
  case int => exact ⟨_, pe_callTy hr hg hm (by decide +kernel) pa_tA (by decide) (by decide) he hpl, fin⟩
  case str => exact ⟨_, pe_callTy hr hg hm (by decide +kernel) pa_tA (by decide) (by decide) he hpl, fin⟩
  all_goals exact ⟨_, pe_callB hr hg hm (by decide +kernel) pa_tA (by decide) (by decide) he hpl, fin⟩
theorem se_isi {t : Ty} {p p2 : Pos} (hg : Gl X "isinstance") (hm : X.mg "isinstance" = none) (hg2 : Gl X t.nm) (hm2 : X.mg t.nm = none)
    (he : starEach [a, .Name t.nm p2] X.env = (false, eval a X.env) :: starEach [.Name t.nm p2] X.env) (ha : SE X M a ma) : SE X M (.Call (.Name "isinstance" p) [a, .Name t.nm p2] [] pos) (.isi ma t) := by
  intro σ H mσ mh ρ R S mv mh' e Q P
  simp only [evE] at e
  obtain ⟨x, h1, e1, e⟩ := bind_ok e
  obtain ⟨k, e3, rfl, rfl⟩ := ofB_ok e
  have hT : PE X (.Name t.nm p2) (tC (.ty t.tn)) := by
    cases t <;> exact pe_bltn hg2 hm2 (u := .type _) (by decide +kernel) rfl (by decide) (by decide)
  refine ⟨_, pe_callB call_isi hg hm (by decide +kernel) (pa_cons pe_tS (pa_cons hT pa_nil rfl) he) (by decide) (by decide) he rfl, ?_⟩
  refine ha σ H mσ mh ρ R S x _ e1 _ fun v H1 ρ1 R1 r1 S1 => ?_
  obtain ⟨n, h1, h2⟩ := isiS (X := X) e3 R1 r1
  exact ⟨v, .ty t.tn, _, _, _, rfl, .ty _, h1, kit_ty h2, P _ _ _ R1 (.bl _) S1⟩
end
end Mn

set_option maxHeartbeats 1000000
/-! EnT: enumerate over a tuple. -/
namespace PySem
open Sem (wp)
theorem mn_enum_new1 {v : Value} {o : Obj} {H : Heap → Prop} (B : Begins v o H) :
    Meets (Builtin.«enumerate.__new__» ⟨[.type "enumerate", v], []⟩) (fun _ R s => H s.heap ∧
      R (.ok (.ret (.ref (s.heap.push o).objs.size))) { s with heap := (s.heap.push o).push { cls := .type "enumerate", data := .fields #[.none, .bool false, .ref s.heap.objs.size, rawInt 0, .none, .none] } }) :=
  .of_wp fun prog w A R s h => by
    obtain ⟨hp, g, d, tk, os⟩ := s; obtain ⟨h1, h⟩ := h
    have hsub := sub_enumerate
    have q1 : ∀ {A' : Around} {E : Value → Shared → Prop} {Q : Value → Shared → Prop}, Q (.ref hp.objs.size) ⟨hp.push o, g, d, tk, os⟩ → wpAny (model prog w) A' (pyIter v) Q E ⟨hp, g, d, tk, os⟩ :=
      fun q => B.iter prog w _ _ ⟨hp, g, d, tk, os⟩ _ h1 q
    wp_walk using q1
    refine wpAny_stack_any fun st => wpAny_pure ?_
    split
    · rename_i c _ _ _ _ _
      cases (c == Value.type "enumerate")
      · wp_walk using q1
        exact ⟨_, rfl, h⟩
      · wp_walk using q1
        exact ⟨_, rfl, h⟩
    · wp_walk using q1
      exact ⟨_, rfl, h⟩
theorem mn_call_enum {prog : Program} {w : World} {A : Around} {E : Value → Shared → Prop} {s : Shared} {v : Value} {o : Obj} {H : Heap → Prop} {Q : Value → Shared → Prop} (B : Begins v o H) (h1 : H s.heap)
    (h : ∀ h', IsEnum h' (s.heap.objs.size + 1) s.heap.objs.size 0 .none → h'.get? s.heap.objs.size = some o → h'.objs.size = s.heap.objs.size + 2 →
      (∀ b o, s.heap.get? b = some o → h'.get? b = some o) → Q (.ref (s.heap.objs.size + 1)) { s with heap := h' }) :
    wpAny (model prog w) A (call (.type "enumerate") [v]) Q E s := by
  refine callType_new F.called_enumerate (by decide) (F.typeCall_enumerate_1 _) (F.newCall_enumerate_1 _) (fun obj => F.args_object_init_2 obj _) F.entry_enumerate_new
    (mn_enum_new1 B) ⟨h1, ?_⟩
  have hz : (s.heap.push o).objs.size = s.heap.objs.size + 1 := Heap.size_push ..
  show _ ∧ _
  rw [hz]
  have he : IsEnum ((s.heap.push o).push { cls := .type "enumerate", data := .fields #[.none, .bool false, .ref s.heap.objs.size, rawInt 0, .none, .none] }) (s.heap.objs.size + 1) s.heap.objs.size 0 .none := by
    have := Heap.get?_push_size (s.heap.push o) (o := { cls := .type "enumerate", data := .fields #[.none, .bool false, .ref s.heap.objs.size, rawInt 0, .none, .none] }) rfl
    rw [hz] at this; exact this
  refine ⟨⟨_, he, rfl⟩, h _ he (Heap.get?_push_of_some _ (Heap.get?_push_size _ B.free)) (by rw [Heap.size_push, hz]) fun b o x => Heap.get?_push_of_some _ (Heap.get?_push_of_some _ x)⟩
theorem mn_enum_endT {prog : Program} {w : World} {A : Around} {E : Value → Shared → Prop} {s : Shared} {e it l : Addr} {i : Nat} {j : Int} {items : Array Value} {old : Value} {Q : Option Value → Shared → Prop} (hh : A.handled = none)
    (he : IsEnum s.heap e it j old) (hit : s.heap.IsTupleIter it l i) (hl : s.heap.IsTuple l items) (hx : items[i]? = none)
    (hQ : ∀ h', Heap.ExtBut it s.heap h' → Q none { s with heap := h' }) : wpAny (model prog w) A (pyNext (.ref e)) Q E s := by
  have hT : s.TypeIs (.ref e) "enumerate" := ⟨_, he, rfl⟩
  unfold pyNext
  refine wpAny_bind (wpAny_attempt (wpAny_callSpecial?_slot (name := Str.ofString "__next__") hT F.slot_enumerate_next
    (wpAny_call_entry F.slot_enumerate_next hT F.entry_enumerate_next ?_ (F.args_enumerate_next_1 _))))
  show wpAny _ _ (field (.ref e) 2 >>= _) _ _ _
  refine wpAny_bind (wpAny_field he rfl (x := .ref it) rfl ?_)
  refine wpAny_bind (RZ.nextOf_tuple_end hh hit hl hx fun h' x he' hx' => ?_)
  obtain ⟨o, ho, hc⟩ := hx'
  refine wpAny_bind (wpAny_isInstance (T := "StopIteration") (b := true) ⟨o, ho, hc⟩ isSubtype_stop ?_)
  exact wpAny_pure (hQ _ he')
end PySem
namespace Mn
open PySem PySem.Spec PyProof.Rows L2
/-- the tuple at a, each item in a new pair -/
def IteT (K : PySem.W.Frag) (a : Addr) : L2.It :=
  ⟨fun i H => ∃ (xs : List V) (x : V), SqT K H a xs ∧ xs[i]? = some x, fun i H v H' => ∃ T x, v = .ref T ∧ H T = none ∧ H' = upd H T (.tup [.int (i : Nat), x]) ∧ ∀ xs, SqT K H a xs → xs[i]? = some x, fun i H => ∃ xs : List V, SqT K H a xs ∧ xs.length ≤ i⟩
theorem turn_enumT {P : Program} {w : World} {K : PySem.W.Frag} {elts : List Expr} {kk : Nat} {tpos : Pos} (a e it : Addr) :
    Turn P w K (.Tuple elts kk tpos) (IteT K a) [e, it] e (fun i h => (∃ old, IsEnum h e it ((i : Nat) : Int) old) ∧ h.IsTupleIter it a i ∧ e ≠ it ∧ a ≠ it ∧ a ≠ e) where
  mem := by simp
  obj := fun i h st b hb => by
    obtain ⟨⟨old, he⟩, ⟨o, ho, hc, hd⟩, _⟩ := st
    have e' : b = e ∨ b = it := by simpa using hb
    rcases e' with z | z
    · rw [z]; exact ⟨_, he, fun v q => nomatch q⟩
    · rw [z]; exact ⟨o, ho, fun v q => by rw [hd] at q; cases q⟩
  keep := fun i h h' st k => let ⟨⟨old, he⟩, hi, hne⟩ := st; ⟨⟨old, k e (by simp) _ he⟩, hi.at fun o q => k it (by simp) o q, hne⟩
  item := by
    intro X hP hw hK hc i pins s σ H E I hf st hg
    subst hP hw hK
    obtain ⟨⟨old, he⟩, hit, hne, hai, hae⟩ := st
    obtain ⟨xs, x, hq, hx⟩ := hg
    obtain ⟨its, rv, p, hz⟩ := I.tuple hq
    obtain ⟨u, hu, ru⟩ := rv.get hx
    have hel : e < s.heap.objs.size := Heap.lt_size he
    have hil : it < s.heap.objs.size := by obtain ⟨_, q, _⟩ := hit; exact Heap.lt_size q
    have hlt : i < its.toArray.size := by simpa using (List.getElem?_eq_some_iff.mp hu).1
    refine wpAny_pyNext_enum_itemD (Draws.tuple (A := X.A.in1) (I.ok.hd hc) it a hai its.toArray) he ⟨hit, p⟩ hlt hne (by simp [hne, Ne.symm hae]) fun x' h' tk hP ho hst hT hsz hk => ?_
    have hxu : x' = u := by
      have : its[i]? = some x' := by simpa using hP
      exact Option.some.inj (this.symm.trans hu)
    subst hxu
    refine ⟨_, rfl, wpAny_letOwnedTupleGo_enum (s := { s with heap := h', toks := tk + 1 }) ho fun h'' he' sb => ?_⟩
    have hT2 : h''.get? s.heap.objs.size = some { cls := .type "tuple", data := .seq #[.int i tk, x'] } := (sb.2 _ (Nat.ne_of_gt hel)).trans hT
    have new : ObjOk X.prog X.w (upd H s.heap.objs.size (.tup [.int (i : Nat), x])) h'' s.heap.objs.size (.tup [.int (i : Nat), x]) :=
      ⟨by show 2 ≤ sizeLine; decide, [.int i tk, x'], .cons ⟨_, rfl⟩ (.cons ru .nil), ⟨_, hT2, rfl, _, rfl⟩⟩
    have I1 : Inv X pins σ (upd H s.heap.objs.size (.tup [.int (i : Nat), x])) { s with heap := h'', toks := tk + 1 } :=
      I.turnedNew (ch := [e, it]) (fun b ob hb q => (sb.2 b (fun z => hb (by simp [z]))).trans (hk b ob (fun z => hb (by simp [z])) (fun z => hb (by simp [z])) q)) hf (Nat.le_refl _) new
    refine ⟨.ref s.heap.objs.size, _, I1, rfl, ⟨_, x, rfl, I.hok.fresh (Nat.le_refl _), rfl, fun ys hy => by rw [I.tuple_inj hy hq]; exact hx⟩, ⟨⟨x', ?_⟩, hst.1.at fun o q => (sb.2 it (Ne.symm hne)).trans q, hne, hai, hae⟩, fun b hb => ?_⟩
    · have e1 : ((i + 1 : Nat) : Int) = (i : Int) + 1 := by omega
      rw [e1]; exact he'
    · have hb' : b < s.heap.objs.size := by
        have e' : b = e ∨ b = it := by simpa using hb
        rcases e' with z | z
        · rw [z]; exact hel
        · rw [z]; exact hil
      rw [upd_ne (Nat.ne_of_lt hb')]
      exact (hf b hb).1
  done := by
    intro X hP hw hK hc i pins s σ H E I hf st hg
    subst hP hw hK
    obtain ⟨⟨old, he⟩, hit, hne, hai, hae⟩ := st
    obtain ⟨xs, hq, hx⟩ := hg
    obtain ⟨its, rv, p, hz⟩ := I.tuple hq
    obtain ⟨f0, f1, f2, f3, f4, f5⟩ := hf it (by simp)
    have hl := rv.length
    exact mn_enum_endT (I.ok.hd hc) he hit p (by simp; omega) fun h' eb => ⟨rfl, I.turned (t' := s.toks) (fun b o hb q => eb b o hb q) f0 f1 f3 f4 f5⟩
  self := fun A i s Q E st h => let ⟨⟨_, he⟩, _⟩ := st; wpAny_pyIter_enum he h
def iEnumT (K : PySem.W.Frag) (ta : TA) : TI := fun σ H R => ta σ H fun vs H1 => ∃ a xs, vs = [.ref a] ∧ ((SqL K H1 a xs ∧ R (Ite K a) H1) ∨ (SqT K H1 a xs ∧ R (IteT K a) H1))
theorem pi_enumT {X : Cx} {e : Expr} {ta : TA} {p pos tpos : Pos} {elts : List Expr} {kk : Nat} (hg : Gl X "enumerate") (hm : X.mg "enumerate" = none) (ha : PA X [e] ta) (hs : starEach [e] X.env = [(false, eval e X.env)] := by rfl) :
    PI X (.Tuple elts kk tpos) (.Call (.Name "enumerate" p) [e] [] pos) (iEnumT X.K ta) := by
  refine ⟨fun pins s σ H R I h => ?_⟩
  refine Call_ (ld_blt I hg hm boot_enumerate (PyProof.Rows.callWith_type1 (thn (ha.run pos pins s σ H _ I h) fun us s1 ⟨vs, H1, I1, r1, q1⟩ => ?_) hs rfl))
  obtain ⟨a, xs, ex, q1⟩ := q1
  subst ex
  cases r1 with
  | cons r rr =>
    cases rr
    cases r
    rcases q1 with ⟨hq, q⟩ | ⟨hq, q⟩
    · obtain ⟨its, rv, p', hz⟩ := I1.list hq
      refine call_enumerate_list p'.isList fun h' he hit hsz hk => wpAny_pyIter_enum he ?_
      have I2 : Inv X pins σ H1 { s1 with heap := h' } := I1.kept (t' := s1.toks) hk
      refine ⟨s1.heap.objs.size + 1, [s1.heap.objs.size + 1, s1.heap.objs.size], _, _, H1, rfl, I2, turn_enum a (s1.heap.objs.size + 1) s1.heap.objs.size, ⟨⟨.none, he⟩, hit, Nat.succ_ne_self _⟩, fun b hb => ?_, q⟩
      have e' : b = s1.heap.objs.size + 1 ∨ b = s1.heap.objs.size := by simpa using hb
      have hle : s1.heap.objs.size ≤ b := by
        rcases e' with z | z
        · rw [z]; exact Nat.le_add_right _ _
        · rw [z]; exact Nat.le_refl _
      exact I1.fpOk hle (I1.hok.fresh hle)
    · obtain ⟨its, rv, p', hz⟩ := I1.tuple hq
      obtain ⟨o1, ho1, _⟩ := id p'
      have al := Heap.lt_size ho1
      refine mn_call_enum (begins_tuple a its.toArray) p' fun h' he hit hsz hk => wpAny_pyIter_enum he ?_
      have I2 : Inv X pins σ H1 { s1 with heap := h' } := I1.kept (t' := s1.toks) hk
      refine ⟨s1.heap.objs.size + 1, [s1.heap.objs.size + 1, s1.heap.objs.size], _, _, H1, rfl, I2, turn_enumT a (s1.heap.objs.size + 1) s1.heap.objs.size, ⟨⟨.none, he⟩, ⟨_, hit, rfl, rfl⟩, Nat.succ_ne_self _, Nat.ne_of_lt al, Nat.ne_of_lt (Nat.lt_succ_of_lt al)⟩, fun b hb => ?_, q⟩
      have e' : b = s1.heap.objs.size + 1 ∨ b = s1.heap.objs.size := by simpa using hb
      have hle : s1.heap.objs.size ≤ b := by
        rcases e' with z | z
        · rw [z]; exact Nat.le_add_right _ _
        · rw [z]; exact Nat.le_refl _
      exact I1.fpOk hle (I1.hok.fresh hle)
end Mn

set_option maxHeartbeats 4000000
/-! Snd2: what loops walk, comprehensions, calls, statements. -/
namespace Mn
open PySem PySem.Spec PyProof.Rows L2

/-! ### a list that is being made -/
section
variable {K : PySem.W.Frag} {ρ ρ' : List Addr} {mh mh' m0 : MH} {H H' H0 : Hp} {D : Addr} {acc : List V} {ho : HO}
/-- neither a tuple nor locked -/
def Loose : HO → Prop
  | .tup _ => False
  | .frz _ _ => False
  | _ => True
theorem SqT.out {q : Addr} {vs : List V} {o0 : HO} (hD : H D = some o0) (hL : Loose o0) (h : SqT K H q vs) : SqT K (upd H D ho) q vs := by
  rcases h with h | h
  · refine .inl ?_
    rcases h with h | ⟨u, h⟩
    · exact .inl (by rw [upd_ne (ne_of h hD (by intro z; subst z; exact hL))]; exact h)
    · exact .inr ⟨u, by rw [upd_ne (ne_of h hD (by intro z; subst z; exact hL))]; exact h⟩
  · exact .inr h
theorem RepH.out {o0 : HO} (R : RepH K ρ mh H) (hD : H D = some o0) (hL : Loose o0) (nm : ¬ Mu ρ mh D) : RepH K ρ mh (upd H D ho) := by
  have ht : ∀ q vs, SqT K H q vs → SqT K (upd H D ho) q vs := fun q vs h => SqT.out hD hL h
  refine ⟨R.len, R.inj, fun a q o e1 e2 => ?_⟩
  have h := R.obj a q o e1 e2
  have ne : o.mut = true → q ≠ D := fun m z => by subst z; exact nm ⟨a, o, e1, e2, m⟩
  cases o with
  | lst xs => obtain ⟨vs, z, r⟩ := h; exact ⟨vs, by rw [upd_ne (ne rfl)]; exact z, Reps.mono' (List.prefix_refl _) ht _ _ r⟩
  | fro xs => obtain ⟨vs, z, r⟩ := h; exact ⟨vs, z.at fun o u e => by rw [upd_ne (ne_of e hD (by intro z; subst z; exact hL))]; exact e, Reps.mono' (List.prefix_refl _) ht _ _ r⟩
  | dct xs => obtain ⟨vs, z, r⟩ := h; exact ⟨vs, by rw [upd_ne (ne rfl)]; exact z, KReps.mono' (List.prefix_refl _) ht r⟩
theorem Stp.out (S : Stp ρ m0 H0 ρ' mh' H) (hn : H0 D = none) : Stp ρ m0 H0 ρ' mh' (upd H D ho) :=
  ⟨S.pre, S.new, fun p o n e => by rw [upd_ne (ne_of_none e hn)]; exact S.frm p o n e⟩
/-- a place for what was made -/
theorem RepH.adoptO (R : RepH K ρ mh H) {mo : MO} (nm : ¬ Mu ρ mh D) (r : RepO K (ρ ++ [D]) H mo D) : RepH K (ρ ++ [D]) (mh ++ [mo]) H := by
  have pre : ρ <+: ρ ++ [D] := List.prefix_append _ _
  have ht : ∀ q vs, SqT K H q vs → SqT K H q vs := fun _ _ h => h
  have split : ∀ (a : Nat) (q : Addr) (u : MO), (ρ ++ [D])[a]? = some q → (mh ++ [mo])[a]? = some u → (ρ[a]? = some q ∧ mh[a]? = some u) ∨ (a = ρ.length ∧ q = D ∧ u = mo) := fun a q u e1 e2 => by
    by_cases h : a < ρ.length
    · rw [List.getElem?_append_left h] at e1
      rw [List.getElem?_append_left (by rw [← R.len]; exact h)] at e2
      exact .inl ⟨e1, e2⟩
    · have h1 : a < (ρ ++ [D]).length := (List.getElem?_eq_some_iff.mp e1).1
      have h2 : a = ρ.length := by simp at h1; omega
      subst h2
      simp at e1
      rw [R.len] at e2
      simp at e2
      exact .inr ⟨rfl, e1.symm, e2.symm⟩
  refine ⟨by simp [R.len], fun a b q oa ob e1 e2 e3 e4 m1 m2 => ?_, fun a q u e1 e2 => ?_⟩
  · rcases split a q oa e1 e3 with ⟨h1, h2⟩ | ⟨rfl, rfl, rfl⟩
    · rcases split b q ob e2 e4 with ⟨h3, h4⟩ | ⟨rfl, rfl, rfl⟩
      · exact R.inj a b q oa ob h1 h3 h2 h4 m1 m2
      · exact absurd ⟨a, oa, h1, h2, m1⟩ nm
    · rcases split b q ob e2 e4 with ⟨h3, h4⟩ | ⟨rfl, _, rfl⟩
      · exact absurd ⟨b, ob, h3, h4, m2⟩ nm
      · rfl
  · rcases split a q u e1 e2 with ⟨h1, h2⟩ | ⟨rfl, rfl, rfl⟩
    · have h := R.obj a q u h1 h2
      cases u with
      | lst xs => obtain ⟨vs, z, r⟩ := h; exact ⟨vs, z, Reps.mono' pre ht _ _ r⟩
      | fro xs => obtain ⟨vs, z, r⟩ := h; exact ⟨vs, z, Reps.mono' pre ht _ _ r⟩
      | dct xs => obtain ⟨vs, z, r⟩ := h; exact ⟨vs, z, KReps.mono' pre ht r⟩
    · exact r
theorem RepH.adopt (R : RepH K ρ mh H) {xs : List MV} (hD : H D = some (.lst acc)) (nm : ¬ Mu ρ mh D) (r : Reps K ρ H xs acc) : RepH K (ρ ++ [D]) (mh ++ [.lst xs]) H :=
  R.adoptO nm ⟨acc, hD, Reps.mono' (List.prefix_append _ _) (fun _ _ h => h) _ _ r⟩
theorem Mu.app {mo : MO} {p : Addr} (hl : ρ.length = mh.length) (m : Mu (ρ ++ [D]) (mh ++ [mo]) p) : Mu ρ mh p ∨ p = D := by
  obtain ⟨a, o, e1, e2, e3⟩ := m
  by_cases h : a < ρ.length
  · rw [List.getElem?_append_left h] at e1
    rw [List.getElem?_append_left (by rw [← hl]; exact h)] at e2
    exact .inl ⟨a, o, e1, e2, e3⟩
  · have h1 : a < (ρ ++ [D]).length := (List.getElem?_eq_some_iff.mp e1).1
    have h2 : a = ρ.length := by simp at h1; omega
    subst h2
    simp at e1
    exact .inr e1.symm
theorem Stp.adopt (S : Stp ρ m0 H0 ρ' mh' H) {mo : MO} (hl : ρ'.length = mh'.length) (hn : H0 D = none) : Stp ρ m0 H0 (ρ' ++ [D]) (mh' ++ [mo]) H :=
  ⟨S.pre.trans (List.prefix_append _ _), fun p m => by
    rcases m.app hl with m | rfl
    · exact S.new p m
    · exact .inr hn, S.frm⟩
/-- a fresh thing of no place -/
theorem RepH.fresh (R : RepH K ρ mh H) (hn : H D = none) : RepH K ρ mh (upd H D ho) ∧ ¬ Mu ρ mh D ∧ ∀ {xs vs}, Reps K ρ H xs vs → Reps K ρ (upd H D ho) xs vs := by
  have ht : ∀ q vs, SqT K H q vs → SqT K (upd H D ho) q vs := fun q vs h => by
    rcases h with h | h
    · refine .inl ?_
      rcases h with h | ⟨u, h⟩
      · exact .inl (by rw [upd_ne (ne_of_none h hn)]; exact h)
      · exact .inr ⟨u, by rw [upd_ne (ne_of_none h hn)]; exact h⟩
    · exact .inr h
  refine ⟨⟨R.len, R.inj, fun a q o f1 f2 => ?_⟩, fun m => ?_, fun r => Reps.mono' (List.prefix_refl _) ht _ _ r⟩
  · have h := R.obj a q o f1 f2
    cases o with
    | lst xs => obtain ⟨vs, z, r⟩ := h; exact ⟨vs, by rw [upd_ne (ne_of_none z hn)]; exact z, Reps.mono' (List.prefix_refl _) ht _ _ r⟩
    | fro xs => obtain ⟨vs, z, r⟩ := h; exact ⟨vs, z.at fun o u e => by rw [upd_ne (ne_of_none e hn)]; exact e, Reps.mono' (List.prefix_refl _) ht _ _ r⟩
    | dct xs => obtain ⟨vs, z, r⟩ := h; exact ⟨vs, by rw [upd_ne (ne_of_none z hn)]; exact z, KReps.mono' (List.prefix_refl _) ht r⟩
  · rcases R.mu m with ⟨_, z⟩ | ⟨_, z⟩ <;> (rw [hn] at z; cases z)
end

/-! ### what is walked -/
def ItOk (K : PySem.W.Frag) (it : It) (ρ0 : List Addr) (m0 : MH) (H0 : Hp) (J : L2.It) : Prop :=
  ∀ ρ mh H, RepH K ρ mh H → Stp ρ0 m0 H0 ρ mh H → ∀ i, (∀ n mv, turnI it mh i n = some mv → J.go i H ∧ ∀ x H', J.yld i H x H' → ∃ ρ', RepH K ρ' mh H' ∧ Stp ρ mh H ρ' mh H' ∧ Rep K ρ' H' mv x) ∧ (doneI it mh i = true → J.stop i H)
def tIt (X : Cx) (tg iter : Expr) : TI := fun σ H R => ∃ wi, PI X tg iter wi ∧ wi σ H R
theorem pi_tIt {X : Cx} {tg iter : Expr} : PI X tg iter (tIt X tg iter) := ⟨fun pins s σ H R I ⟨_, h, q⟩ => h.run pins s σ H R I q⟩
def SI (X : Cx) (M : Cm) (tg iter : Expr) (ik : IK) (ma mb : ME) : Prop :=
  ∀ σ H mσ mh ρ, RepH X.K ρ mh H → RepS X.K ρ H mσ σ → ∀ x h1 y h2 it, evE M ma mσ mh = .ok x h1 → evE M mb mσ h1 = .ok y h2 → itM ik x y h2 = some it →
    ∀ R : L2.It → Hp → Prop, (∀ J H' ρ', RepH X.K ρ' h2 H' → Stp ρ mh H ρ' h2 H' → ItOk X.K it ρ' h2 H' J → R J H') → tIt X tg iter σ H R
theorem turn_some {it : It} {h : MH} {i n : Nat} {mv : MV} (e : turnI it h i n = some mv) : ∃ xs, it.items h = some xs ∧ xs[i]? = some mv := by
  unfold turnI at e
  cases q : it.items h with
  | none => rw [q] at e; cases e
  | some xs =>
    rw [q] at e
    simp only [Option.bind_some] at e
    split at e
    · exact ⟨xs, rfl, e⟩
    · cases e
theorem done_some {it : It} {h : MH} {i : Nat} (e : doneI it h i = true) : ∃ xs, it.items h = some xs ∧ xs.length = i := by
  unfold doneI at e
  split at e
  · exact ⟨_, by assumption, by simpa using e⟩
  · cases e
section
variable {X : Cx} {M : Cm} {a b : Expr} {ma mb : ME} {tg : Expr} {K : PySem.W.Frag}
theorem itOk_tup {ρ0 : List Addr} {m0 : MH} {H0 : Hp} {p : Addr} {xs : List MV} {vs : List V} (R0 : RepH K ρ0 m0 H0) (s : SqT K H0 p vs) (r : Reps K ρ0 H0 xs vs) : ItOk K (.fix xs) ρ0 m0 H0 (Itt K p) := by
  intro ρ mh H R S i
  have s' := SqT.stp R0 S s
  have r' := r.stp R0 S
  refine ⟨fun n mv e => ?_, fun e => ?_⟩
  · obtain ⟨ys, h1, h2⟩ := turn_some e
    cases h1
    obtain ⟨v, g, hv⟩ := r'.get h2
    refine ⟨⟨vs, v, s', g⟩, fun x H' y => ?_⟩
    obtain ⟨rfl, y⟩ := y
    have : v = x := Option.some.inj (g.symm.trans (y vs s'))
    subst this
    exact ⟨ρ, R, .refl, hv⟩
  · obtain ⟨ys, h1, h2⟩ := done_some e
    cases h1
    exact ⟨vs, s', by rw [← r.length]; omega⟩
theorem itOk_live {ρ0 : List Addr} {m0 : MH} {H0 : Hp} {p : Addr} {l : Nat} (hp : ρ0[l]? = some p) : ItOk K (.live l) ρ0 m0 H0 (Itl K p) := by
  intro ρ mh H R S i
  have hp' := prefix_get S.pre hp
  refine ⟨fun n mv e => ?_, fun e => ?_⟩
  · obtain ⟨ys, h1, h2⟩ := turn_some e
    obtain ⟨vs, s', r'⟩ := R.lsts hp' h1
    obtain ⟨v, g, hv⟩ := r'.get h2
    refine ⟨⟨vs, v, s', g⟩, fun x H' y => ?_⟩
    obtain ⟨rfl, y⟩ := y
    have : v = x := Option.some.inj (g.symm.trans (y vs s'))
    subst this
    exact ⟨ρ, R, .refl, hv⟩
  · obtain ⟨ys, h1, h2⟩ := done_some e
    obtain ⟨vs, s', r'⟩ := R.lsts hp' h1
    exact ⟨vs, s', by rw [← r'.length]; omega⟩
theorem itOk_rng {ρ0 : List Addr} {m0 : MH} {H0 : Hp} {lo : Int} {n : Nat} : ItOk K (.fix (rngI lo n)) ρ0 m0 H0 (Itr lo n) := by
  intro ρ mh H R S i
  refine ⟨fun m mv e => ?_, fun e => ?_⟩
  · obtain ⟨ys, h1, h2⟩ := turn_some e
    cases h1
    have hlt : i < n := by
      have := (List.getElem?_eq_some_iff.mp h2).1
      simpa [rngI] using this
    have hv : mv = .int (lo + (i : Nat)) := by
      simp [rngI, List.getElem?_map, List.getElem?_range hlt] at h2
      exact h2.symm
    subst hv
    refine ⟨hlt, fun x H' y => ?_⟩
    obtain ⟨rfl, rfl⟩ := y
    exact ⟨ρ, R, .refl, .int _⟩
  · obtain ⟨ys, h1, h2⟩ := done_some e
    cases h1
    simp [rngI] at h2
    show n ≤ i
    omega
theorem si_val (ha : SE X M a ma) : SI X M tg a .val ma (.c .non) := by
  intro σ H mσ mh ρ R S x h1 y h2 it e1 e2 e3 Q P
  simp only [evE] at e2
  cases e2
  cases x with
  | tup xs =>
    simp only [itM, Option.some.injEq] at e3
    subst e3
    refine ⟨_, pi_tup pe_tS, ha σ H mσ mh ρ R S _ _ e1 _ fun v H1 ρ1 R1 r1 S1 => ?_⟩
    cases r1 with
    | tup s r => exact ⟨_, rfl, ⟨_, s⟩, P _ _ ρ1 R1 S1 (itOk_tup R1 s r)⟩
  | ref l =>
    simp only [itM] at e3
    cases hl : lsts h1 l with
    | none => rw [hl] at e3; cases e3
    | some xs =>
      rw [hl] at e3
      cases e3
      refine ⟨_, pi_list pe_tS, ha σ H mσ mh ρ R S _ _ e1 _ fun v H1 ρ1 R1 r1 S1 => ?_⟩
      cases r1 with
      | ref hp =>
        obtain ⟨vs, s, r⟩ := R1.lsts hp hl
        exact ⟨_, rfl, ⟨_, s⟩, P _ _ ρ1 R1 S1 (itOk_live hp)⟩
  | _ => simp [itM] at e3
theorem si_rng1 {p pos : Pos} (hg : Gl X "range") (hm : X.mg "range" = none) (hs : starEach [a] X.env = (false, eval a X.env) :: starEach [] X.env) (ha : SE X M a ma) : SI X M tg (.Call (.Name "range" p) [a] [] pos) .rng1 ma (.c .non) := by
  intro σ H mσ mh ρ R S x h1 y h2 it e1 e2 e3 Q P
  simp only [evE] at e2
  cases e2
  cases x <;> simp only [itM] at e3 <;> try cases e3
  split at e3
  · cases e3
    rename_i hj
    refine ⟨_, pi_range1 hg hm (pa_cons pe_tS pa_nil hs) hs, ha σ H mσ mh ρ R S _ _ e1 _ fun v H1 ρ1 R1 r1 S1 => ?_⟩
    cases r1
    exact ⟨_, rfl, hj.1, hj.2, P _ _ ρ1 R1 S1 itOk_rng⟩
  · cases e3
theorem si_rng2 {p pos : Pos} (hg : Gl X "range") (hm : X.mg "range" = none) (hs : starEach [a, b] X.env = (false, eval a X.env) :: starEach [b] X.env) (hs2 : starEach [b] X.env = (false, eval b X.env) :: starEach [] X.env)
    (ha : SE X M a ma) (hb : SE X M b mb) : SI X M tg (.Call (.Name "range" p) [a, b] [] pos) .rng2 ma mb := by
  intro σ H mσ mh ρ R S x h1 y h2 it e1 e2 e3 Q P
  cases x <;> simp only [itM] at e3 <;> try cases e3
  cases y <;> simp only at e3 <;> try cases e3
  split at e3
  · cases e3
    rename_i hj
    refine ⟨_, pi_range2 hg hm (pa_cons pe_tS (pa_cons pe_tS pa_nil hs2) hs) (by rw [hs, hs2]; rfl) (by rw [hs2]; rfl), ha σ H mσ mh ρ R S _ _ e1 _ fun v H1 ρ1 R1 r1 S1 => ?_⟩
    refine hb σ H1 mσ h1 ρ1 R1 (S.stp R S1) _ _ e2 _ fun w H2 ρ2 R2 r2 S2 => ?_
    cases r1; cases r2
    exact ⟨_, _, rfl, ⟨hj.1.1, hj.1.2, hj.2.1, hj.2.2⟩, P _ _ ρ2 R2 (S1.trans S2) itOk_rng⟩
  · cases e3
/-! ### enumerate, zip: the items come in new pairs -/
theorem pair_rep {ρ : List Addr} {mh : MH} {H : Hp} {T : Addr} {mx my : MV} {x y : V} (R : RepH K ρ mh H) (hn : H T = none) (rx : Rep K ρ H mx x) (ry : Rep K ρ H my y) :
    RepH K ρ mh (upd H T (.tup [x, y])) ∧ Stp ρ mh H ρ mh (upd H T (.tup [x, y])) ∧ Rep K ρ (upd H T (.tup [x, y])) (.tup [mx, my]) (.ref T) := R.tupl hn (.cons rx (.cons ry .nil))
theorem enum_get {xs : List MV} {i : Nat} {m : MV} (e : (enumI xs)[i]? = some m) : ∃ x, xs[i]? = some x ∧ m = .tup [.int (i : Nat), x] := by
  simp only [enumI, List.getElem?_mapIdx] at e
  cases h : xs[i]? with
  | none => rw [h] at e; cases e
  | some x => rw [h] at e; cases e; exact ⟨x, rfl, rfl⟩
theorem itOk_enumL {ρ0 : List Addr} {m0 : MH} {H0 : Hp} {p : Addr} {l : Nat} (hp : ρ0[l]? = some p) : ItOk K (.enumL l) ρ0 m0 H0 (Ite K p) := by
  intro ρ mh H R S i
  have hp' := prefix_get S.pre hp
  have it : ∀ ys, (It.enumL l).items mh = some ys → ∃ xs, lsts mh l = some xs ∧ ys = enumI xs := fun ys h => by
    simp only [It.items] at h
    cases q : lsts mh l with
    | none => rw [q] at h; cases h
    | some xs => rw [q] at h; cases h; exact ⟨xs, rfl, rfl⟩
  refine ⟨fun n mv e => ?_, fun e => ?_⟩
  · obtain ⟨ys, h1, h2⟩ := turn_some e
    obtain ⟨xs, g1, rfl⟩ := it ys h1
    obtain ⟨m, h3, rfl⟩ := enum_get h2
    obtain ⟨vs, s', r'⟩ := R.lsts hp' g1
    obtain ⟨v, g, hv⟩ := r'.get h3
    refine ⟨⟨vs, v, s', g⟩, fun x H' y => ?_⟩
    obtain ⟨T, z, rfl, hn, rfl, y⟩ := y
    have : v = z := Option.some.inj (g.symm.trans (y vs s'))
    subst this
    obtain ⟨a1, a2, a3⟩ := pair_rep R hn (.int (i : Nat)) hv
    exact ⟨ρ, a1, a2, a3⟩
  · obtain ⟨ys, h1, h2⟩ := done_some e
    obtain ⟨xs, g1, rfl⟩ := it ys h1
    obtain ⟨vs, s', r'⟩ := R.lsts hp' g1
    exact ⟨vs, s', by rw [← r'.length]; simp [enumI] at h2; omega⟩
theorem zip_get {xs ys : List MV} {i : Nat} {m : MV} (e : (zipI xs ys)[i]? = some m) : ∃ x y, xs[i]? = some x ∧ ys[i]? = some y ∧ m = .tup [x, y] := by
  simp only [zipI, List.getElem?_zipWith] at e
  split at e
  · cases e; exact ⟨_, _, by assumption, by assumption, rfl⟩
  · cases e
theorem itOk_zipL {ρ0 : List Addr} {m0 : MH} {H0 : Hp} {p q : Addr} {l k : Nat} (hp : ρ0[l]? = some p) (hq : ρ0[k]? = some q) : ItOk K (.zipLL l k) ρ0 m0 H0 (Itz K p q) := by
  intro ρ mh H R S i
  have hp' := prefix_get S.pre hp
  have hq' := prefix_get S.pre hq
  have it : ∀ zs, (It.zipLL l k).items mh = some zs → ∃ xs ys, lsts mh l = some xs ∧ lsts mh k = some ys ∧ zs = zipI xs ys := fun zs h => by
    simp only [It.items] at h
    split at h
    · cases h; exact ⟨_, _, by assumption, by assumption, rfl⟩
    · cases h
  refine ⟨fun n mv e => ?_, fun e => ?_⟩
  · obtain ⟨zs, h1, h2⟩ := turn_some e
    obtain ⟨xs, ys, g1, g1', rfl⟩ := it zs h1
    obtain ⟨m, m', h3, h4, rfl⟩ := zip_get h2
    obtain ⟨vs, s', r'⟩ := R.lsts hp' g1
    obtain ⟨ws, s2, r2⟩ := R.lsts hq' g1'
    obtain ⟨v, g, hv⟩ := r'.get h3
    obtain ⟨w, g2, hw⟩ := r2.get h4
    refine ⟨⟨vs, ws, v, w, s', s2, g, g2⟩, fun x H' y => ?_⟩
    obtain ⟨T, z, z2, rfl, hn, rfl, y1, y2⟩ := y
    have : v = z := Option.some.inj (g.symm.trans (y1 vs s'))
    subst this
    have : w = z2 := Option.some.inj (g2.symm.trans (y2 ws s2))
    subst this
    obtain ⟨a1, a2, a3⟩ := pair_rep R hn hv hw
    exact ⟨ρ, a1, a2, a3⟩
  · obtain ⟨zs, h1, h2⟩ := done_some e
    obtain ⟨xs, ys, g1, g1', rfl⟩ := it zs h1
    obtain ⟨vs, s', r'⟩ := R.lsts hp' g1
    obtain ⟨ws, s2, r2⟩ := R.lsts hq' g1'
    exact ⟨vs, ws, s', s2, by rw [← r'.length, ← r2.length]; simp [zipI] at h2; omega⟩
theorem itOk_zipF {ρ0 : List Addr} {m0 : MH} {H0 : Hp} {p q : Addr} {xs ys : List MV} {vs ws : List V} (R0 : RepH K ρ0 m0 H0) (s : SqT K H0 p vs) (r : Reps K ρ0 H0 xs vs) (s2 : SqT K H0 q ws) (r2 : Reps K ρ0 H0 ys ws) : ItOk K (.zipFF xs ys) ρ0 m0 H0 (RZ.ItzT K p q) := by
  intro ρ mh H R S i
  have s' := SqT.stp R0 S s
  have r' := r.stp R0 S
  have s2' := SqT.stp R0 S s2
  have r2' := r2.stp R0 S
  refine ⟨fun n mv e => ?_, fun e => ?_⟩
  · obtain ⟨zs, h1, h2⟩ := turn_some e
    cases h1
    obtain ⟨m, m', h3, h4, rfl⟩ := zip_get h2
    obtain ⟨v, g, hv⟩ := r'.get h3
    obtain ⟨w, g2, hw⟩ := r2'.get h4
    refine ⟨⟨vs, ws, v, w, s', s2', g, g2⟩, fun x H' y => ?_⟩
    obtain ⟨T, z, z2, rfl, hn, rfl, y1, y2⟩ := y
    have : v = z := Option.some.inj (g.symm.trans (y1 vs s'))
    subst this
    have : w = z2 := Option.some.inj (g2.symm.trans (y2 ws s2'))
    subst this
    obtain ⟨a1, a2, a3⟩ := pair_rep R hn hv hw
    exact ⟨ρ, a1, a2, a3⟩
  · obtain ⟨zs, h1, h2⟩ := done_some e
    cases h1
    exact ⟨vs, ws, s', s2', by rw [← r.length, ← r2.length]; simp [zipI] at h2; omega⟩
theorem itOk_enumF {ρ0 : List Addr} {m0 : MH} {H0 : Hp} {p : Addr} {xs : List MV} {vs : List V} (R0 : RepH K ρ0 m0 H0) (s : SqT K H0 p vs) (r : Reps K ρ0 H0 xs vs) : ItOk K (.enumF xs) ρ0 m0 H0 (IteT K p) := by
  intro ρ mh H R S i
  have s' := SqT.stp R0 S s
  have r' := r.stp R0 S
  refine ⟨fun n mv e => ?_, fun e => ?_⟩
  · obtain ⟨ys, h1, h2⟩ := turn_some e
    cases h1
    obtain ⟨m, h3, rfl⟩ := enum_get h2
    obtain ⟨v, g, hv⟩ := r'.get h3
    refine ⟨⟨vs, v, s', g⟩, fun x H' y => ?_⟩
    obtain ⟨T, z, rfl, hn, rfl, y⟩ := y
    have : v = z := Option.some.inj (g.symm.trans (y vs s'))
    subst this
    obtain ⟨a1, a2, a3⟩ := pair_rep R hn (.int (i : Nat)) hv
    exact ⟨ρ, a1, a2, a3⟩
  · obtain ⟨ys, h1, h2⟩ := done_some e
    cases h1
    exact ⟨vs, s', by rw [← r.length]; simp [enumI] at h2; omega⟩
theorem si_enum {p pos tpos : Pos} {elts : List Expr} {kk : Nat} (hg : Gl X "enumerate") (hm : X.mg "enumerate" = none) (hs : starEach [a] X.env = (false, eval a X.env) :: starEach [] X.env) (ha : SE X M a ma) : SI X M (.Tuple elts kk tpos) (.Call (.Name "enumerate" p) [a] [] pos) .enum ma (.c .non) := by
  intro σ H mσ mh ρ R S x h1 y h2 it e1 e2 e3 Q P
  simp only [evE] at e2
  cases e2
  cases x with
  | tup xs =>
    simp only [itM, Option.some.injEq] at e3
    subst e3
    refine ⟨_, pi_enumT hg hm (pa_cons pe_tS pa_nil hs) hs, ha σ H mσ mh ρ R S _ _ e1 _ fun v H1 ρ1 R1 r1 S1 => ?_⟩
    cases r1 with
    | tup s r => exact ⟨_, _, rfl, .inr ⟨s, P _ _ ρ1 R1 S1 (itOk_enumF R1 s r)⟩⟩
  | ref l =>
    simp only [itM] at e3
    cases hl : lsts h1 l with
    | none => rw [hl] at e3; cases e3
    | some xs =>
      rw [hl] at e3
      cases e3
      refine ⟨_, pi_enumT hg hm (pa_cons pe_tS pa_nil hs) hs, ha σ H mσ mh ρ R S _ _ e1 _ fun v H1 ρ1 R1 r1 S1 => ?_⟩
      cases r1 with
      | ref hp =>
        obtain ⟨vs, s, r⟩ := R1.lsts hp hl
        exact ⟨_, _, rfl, .inl ⟨s, P _ _ ρ1 R1 S1 (itOk_enumL hp)⟩⟩
  | _ => simp [itM] at e3
/-! ### targets -/
def tGt (X : Cx) (tg : Expr) : TG := fun v σ H Q => ∃ t, PG X tg t ∧ t v σ H Q
def tGts (X : Cx) (tgs : List Expr) : TGs := fun v σ H Q => ∃ t, PGs X tgs t ∧ t v σ H Q
theorem pg_tGt {X : Cx} {tg : Expr} : PG X tg (tGt X tg) := ⟨fun pins s σ H v u Q I r ⟨_, h, q⟩ => h.run pins s σ H v u Q I r q⟩
def SG (X : Cx) (tg : Expr) (mt : MT) : Prop :=
  ∀ σ H mσ mσ' mh ρ v mv, RepH X.K ρ mh H → RepS X.K ρ H mσ σ → Rep X.K ρ H mv v → asgT mt mv mσ = some mσ' → ∀ Q : L2.St → Hp → Prop,
    (∀ σ', RepS X.K ρ H mσ' σ' → (∀ i, i ∉ mt.slots → σ'[i]? = σ[i]?) → Q σ' H) → tGt X tg v σ H Q
def SGs (X : Cx) (tgs : List Expr) (mts : List MT) : Prop :=
  ((assignEach tgs X.env).length = mts.length ∧ (assignEach tgs X.env).findIdx? (·.1) = none) ∧
  ∀ σ H mσ mσ' mh ρ vs mvs, RepH X.K ρ mh H → RepS X.K ρ H mσ σ → Reps X.K ρ H mvs vs → mvs.length = mts.length → asgTs mts mvs mσ = some mσ' → ∀ Q : L2.St → Hp → Prop,
    (∀ σ', RepS X.K ρ H mσ' σ' → (∀ i, i ∉ MT.slotss mts → σ'[i]? = σ[i]?) → Q σ' H) → tGts X tgs vs σ H Q
theorem pgs_tGts {X : Cx} {tgs : List Expr} : PGs X tgs (tGts X tgs) := ⟨fun pins s σ H v u Q I r ⟨_, h, q⟩ => h.run pins s σ H v u Q I r q⟩
theorem sg_nm {i : Nat} {x : Str} {pos : Pos} (hN : X.N.Nodup) (hi : X.N[i]? = some x) (hx : Loc X.env.scope x) (hf : X.fn x = true ∨ X.env.scope.names.lookup x = some .local) : SG X (.Name x pos) (.nm i) := by
  intro σ H mσ mσ' mh ρ v mv R S r e Q P
  simp only [asgT, Option.some.injEq] at e
  subst e
  exact ⟨_, pg_name hN hi hx hf, P _ (S.set r i) fun j hj => List.getElem?_set_ne (by simp [MT.slots] at hj; omega)⟩
theorem sgs_nil : SGs X [] [] := by
  refine ⟨⟨rfl, rfl⟩, fun σ H mσ mσ' mh ρ vs mvs R S r hl e Q P => ?_⟩
  simp only [asgTs, Option.some.injEq] at e
  subst e
  cases mvs with
  | nil => cases r; exact ⟨_, pgs_nil, rfl, P _ S fun _ _ => rfl⟩
  | cons _ _ => simp at hl
theorem sgs_cons {t : Expr} {ts : List Expr} {mt : MT} {mts : List MT} (hs : assignEach (t :: ts) X.env = (false, assign t X.env) :: assignEach ts X.env) (h1 : SG X t mt) (h2 : SGs X ts mts) : SGs X (t :: ts) (mt :: mts) := by
  obtain ⟨⟨g1, g2⟩, g3⟩ := h2
  refine ⟨⟨by rw [hs]; simp [g1], by rw [hs]; simp [List.findIdx?_cons, g2]⟩, fun σ H mσ mσ' mh ρ vs mvs R S r hl e Q P => ?_⟩
  cases mvs with
  | nil => simp at hl
  | cons m ms =>
    cases r with
    | cons ra rb =>
      simp only [asgTs] at e
      cases q : asgT mt m mσ with
      | none => rw [q] at e; cases e
      | some mσ1 =>
        rw [q] at e
        refine ⟨_, pgs_cons pg_tGt pgs_tGts (by rw [hs]; rfl), _, _, rfl, ?_⟩
        refine h1 σ H mσ mσ1 mh ρ _ m R S ra q _ fun σ1 S1 k1 => ?_
        refine g3 σ1 H mσ1 mσ' mh ρ _ ms R S1 rb (by simpa using hl) e _ fun σ2 S2 k2 => ?_
        refine P σ2 S2 fun i hi => ?_
        simp only [MT.slotss, List.mem_append, not_or] at hi
        rw [k2 i hi.2, k1 i hi.1]
theorem sg_tp {ts : List Expr} {mts : List MT} {n : Nat} {pos : Pos} (hc : X.calm = true) (h : SGs X ts mts) : SG X (.Tuple ts n pos) (.tp mts) := by
  intro σ H mσ mσ' mh ρ v mv R S r e Q P
  obtain ⟨⟨g1, g2⟩, g3⟩ := h
  cases r <;> simp only [asgT] at e <;> try cases e
  rename_i xs p vs s r
  split at e
  · rename_i hl
    refine ⟨_, pg_tup hc pgs_tGts g1 g2, p, vs, rfl, s, by rw [← r.length]; exact hl, ?_⟩
    exact g3 σ H mσ mσ' mh ρ vs xs R S r hl e Q P
  · cases e
mutual
theorem asgT_len : ∀ {mt : MT} {v : MV} {σ σ' : MS'}, asgT mt v σ = some σ' → σ'.length = σ.length
  | .nm i, v, σ, σ', e => by simp only [asgT, Option.some.injEq] at e; subst e; simp
  | .tp ts, v, σ, σ', e => by
    cases v <;> simp only [asgT] at e <;> try cases e
    split at e
    · exact asgTs_len e
    · cases e
theorem asgTs_len : ∀ {mt : List MT} {v : List MV} {σ σ' : MS'}, asgTs mt v σ = some σ' → σ'.length = σ.length
  | [], v, σ, σ', e => by simp only [asgTs, Option.some.injEq] at e; subst e; rfl
  | t :: ts, [], σ, σ', e => by simp [asgTs] at e
  | t :: ts, x :: xs, σ, σ', e => by
    simp only [asgTs] at e
    cases q : asgT t x σ with
    | none => rw [q] at e; cases e
    | some σ1 => rw [q] at e; rw [asgTs_len (mt := ts) (v := xs) e, asgT_len q]
end
/-! ### comprehensions -/
theorem wipe_rep {ρ : List Addr} {H : Hp} {mσ : MS'} {σ : L2.St} (S : RepS K ρ H mσ σ) : ∀ own : List Nat, RepS K ρ H (wipeM mσ own) (wipe σ own)
  | [] => S
  | v :: vs => by
    have ih := wipe_rep S vs
    refine ⟨by simp [wipe, wipeM, ih.len], fun i m e => ?_⟩
    simp only [wipeM] at e
    simp only [wipe]
    by_cases h : i = v
    · subst h
      by_cases hl : i < (wipeM mσ vs).length
      · rw [List.getElem?_set_self hl] at e; cases e
      · rw [List.getElem?_eq_none (by simp; omega)] at e; cases e
    · rw [List.getElem?_set_ne (Ne.symm h)] at e ⊢
      exact ih.get i m e
theorem wipe_get {σ : L2.St} : ∀ (vs : List Nat) (i : Nat), (wipe σ vs)[i]? = if i ∈ vs ∧ i < σ.length then some none else σ[i]?
  | [], i => by simp [wipe]
  | v :: vs, i => by
    simp only [wipe]
    by_cases h : i = v
    · subst h
      by_cases hl : i < σ.length
      · rw [List.getElem?_set_self (by rw [wipe_length]; exact hl)]; simp [hl]
      · rw [List.getElem?_eq_none (by simp [wipe_length]; omega)]; simp [hl]
    · rw [List.getElem?_set_ne (Ne.symm h), wipe_get vs i]
      simp [h]
theorem wipe_eq {σ σ' : L2.St} {vs sl : List Nat} (hl : σ'.length = σ.length) (hs : ∀ i ∈ sl, i ∈ vs) (k : ∀ i, i ∉ sl → σ'[i]? = (wipe σ vs)[i]?) : wipe σ' vs = wipe σ vs := by
  apply List.ext_getElem?
  intro i
  rw [wipe_get, wipe_get]
  by_cases h : i ∈ vs
  · by_cases h2 : i < σ.length
    · simp [h, h2, hl]
    · simp only [h, h2, hl, and_false, if_false]
      rw [List.getElem?_eq_none (by omega), List.getElem?_eq_none (by omega)]
  · have h3 : i ∉ sl := fun z => h (hs i z)
    simp only [h, false_and, if_false]
    rw [k i h3, wipe_get]; simp [h]
def STs (X : Cx) (M : Cm) (ifs : List Expr) (mifs : List ME) : Prop := (ifs = [] ∧ mifs = []) ∨ ∃ c mc, ifs = [c] ∧ mifs = [mc] ∧ ST X M c mc
def tTs (X : Cx) (ifs : List Expr) : TT := fun σ H Q => ∃ t, PTs X ifs t ∧ t σ H Q
theorem pts_tTs {X : Cx} {ifs : List Expr} : PTs X ifs (tTs X ifs) := ⟨fun pins s σ H Q I ⟨_, h, q⟩ => h.run pins s σ H Q I q⟩
theorem sts_run {ifs : List Expr} {mifs : List ME} (h : STs X M ifs mifs) {σ : L2.St} {H : Hp} {mσ : MS'} {mh mh' : MH} {ρ : List Addr} (R : RepH X.K ρ mh H) (S : RepS X.K ρ H mσ σ) {k : Bool} (e : evTs M mifs mσ mh = .ok k mh') {Q : Bool → Hp → Prop}
    (P : ∀ H' ρ', RepH X.K ρ' mh' H' → Stp ρ mh H ρ' mh' H' → Q k H') : tTs X ifs σ H Q := by
  rcases h with ⟨rfl, rfl⟩ | ⟨c, mc, rfl, rfl, h⟩
  · simp only [evTs] at e
    cases e
    exact ⟨_, pts_nil, P H ρ R .refl⟩
  · simp only [evTs] at e
    obtain ⟨x, h1, e1, e⟩ := bind_ok e
    split at e
    · cases e
      exact ⟨_, pts_one pt_tT, h σ H mσ mh ρ R S x _ e1 true (by assumption) _ P⟩
    · cases e
      exact ⟨_, pts_one pt_tT, h σ H mσ mh ρ R S x _ e1 false (by assumption) _ P⟩
    · cases e
def gLc (X : Cx) (scope : Scope) (tg : Expr) : TG := fun v σ H Q => ∀ (s : Shared) (Hh : Hp) (C : Addr) (cl : List (Str × Addr)) (fp : List Addr), tGt (X.blk s Hh scope (compEnvC scope cl C X.env) fp) tg v σ H Q
def ttLc (X : Cx) (scope : Scope) (ifs : List Expr) : TT := fun σ H Q => ∀ (s : Shared) (Hh : Hp) (C : Addr) (cl : List (Str × Addr)) (fp : List Addr), tTs (X.blk s Hh scope (compEnvC scope cl C X.env) fp) ifs σ H Q
def teLc (X : Cx) (scope : Scope) (elt : Expr) : TE := fun σ H Q => ∀ (s : Shared) (Hh : Hp) (C : Addr) (cl : List (Str × Addr)) (fp : List Addr), tS (X.blk s Hh scope (compEnvC scope cl C X.env) fp) elt σ H Q
theorem gLc_ok {scope : Scope} {tg : Expr} (s : Shared) (Hh : Hp) (C : Addr) (cl : List (Str × Addr)) (fp : List Addr) : PG (X.blk s Hh scope (compEnvC scope cl C X.env) fp) tg (gLc X scope tg) := ⟨fun pins s' σ H v u Q I r q => pg_tGt.run pins s' σ H v u Q I r (q s Hh C cl fp)⟩
theorem ttLc_ok {scope : Scope} {ifs : List Expr} (s : Shared) (Hh : Hp) (C : Addr) (cl : List (Str × Addr)) (fp : List Addr) : PTs (X.blk s Hh scope (compEnvC scope cl C X.env) fp) ifs (ttLc X scope ifs) := ⟨fun pins s' σ H Q I q => pts_tTs.run pins s' σ H Q I (q s Hh C cl fp)⟩
theorem teLc_ok {scope : Scope} {elt : Expr} (s : Shared) (Hh : Hp) (C : Addr) (cl : List (Str × Addr)) (fp : List Addr) : PE (X.blk s Hh scope (compEnvC scope cl C X.env) fp) elt (teLc X scope elt) := ⟨fun pins s' σ H Q I q => pe_tS.run pins s' σ H Q I (q s Hh C cl fp)⟩
theorem lc_rd {elt tg iter : Expr} {ifs : List Expr} {scope : Scope} {own : List (Str × Nat)} {melt : ME} {mt : MT} {ik : IK} {mifs : List ME} (hi : SI X M tg iter ik ma mb) (hsl : ∀ i ∈ mt.slots, i ∈ own.map (·.2))
    (hg : ∀ (s : Shared) (H : Hp) (C : Addr) (cl : List (Str × Addr)) (fp : List Addr), SG (X.blk s H scope (compEnvC scope cl C X.env) fp) tg mt)
    (ht : ∀ (s : Shared) (H : Hp) (C : Addr) (cl : List (Str × Addr)) (fp : List Addr), STs (X.blk s H scope (compEnvC scope cl C X.env) fp) M ifs mifs)
    (he : ∀ (s : Shared) (H : Hp) (C : Addr) (cl : List (Str × Addr)) (fp : List Addr), SE (X.blk s H scope (compEnvC scope cl C X.env) fp) M elt melt)
    {σ : L2.St} {H : Hp} {mσ : MS'} {mh mh' : MH} {ρ : List Addr} {mv : MV} {Q : VK} (R : RepH X.K ρ mh H) (S : RepS X.K ρ H mσ σ) (e : evE M (.lc melt mt ik ma mb mifs (own.map (·.2))) mσ mh = .ok mv mh') (P : Post X.K ρ mh H mv mh' Q) :
    tLc (tIt X tg iter) (gLc X scope tg) (ttLc X scope ifs) (teLc X scope elt) (own.map (·.2)) σ H Q := by
  simp only [evE] at e
  obtain ⟨x, h1, e1, e⟩ := bind_ok e
  obtain ⟨y, h2, e2, e⟩ := bind_ok e
  split at e
  · rename_i it e3
    split at e
    · rename_i xs e4
      obtain ⟨ys, h3, e5, e⟩ := bind_ok e
      cases e
      have hlm := lineM_le
      refine hi σ H mσ mh ρ R S x h1 y h2 it e1 e2 e3 _ fun J H1 ρ1 R1 S1 ok1 D hD => ?_
      have RS1 := S.stp R S1
      generalize hst : (fun (v : MV) (h : MH) => lcStep (asgT mt v (wipeM mσ (own.map (·.2)))) (fun σ h => evTs M mifs σ h) (fun σ h => evE M melt σ h) h) = step at e5
      -- the loop's word
      refine ⟨fun i n Hc => ∃ acc' acc mc ρc, compGo it step n i acc' mc = .ok ys h3 ∧ RepH X.K ρc mc Hc ∧ Stp ρ1 h2 H1 ρc mc Hc ∧ Hc D = some (.lst acc) ∧ ¬ Mu ρc mc D ∧ Reps X.K ρc Hc acc' acc, ⟨xs.length, ?_⟩, ?_⟩
      · obtain ⟨f1, f2, _⟩ := R1.fresh (ho := .lst []) hD
        exact ⟨[], [], h2, ρ1, e5, f1, Stp.out .refl hD, upd_same, f2, .nil⟩
      · rintro i n Hc ⟨acc', acc, mc, ρc, ec, Rc, Sc, hDc, nmc, rc⟩
        cases n with
        | zero =>
          simp only [compGo] at ec
          split at ec
          · cases ec
            refine .inl ⟨(ok1 ρc _ Hc Rc Sc i).2 (by assumption), ?_⟩
            refine (P.after S1) _ _ _ (Rc.adopt hDc nmc rc) (.ref ?_) (Sc.adopt Rc.len hD)
            rw [← Rc.len]; simp
          · cases ec
        | succ n =>
          simp only [compGo] at ec
          split at ec
          · rename_i v ev
            obtain ⟨o, m4, e6, ec⟩ := bind_ok ec
            obtain ⟨go, yl⟩ := (ok1 ρc mc Hc Rc Sc i).1 _ _ ev
            refine .inr ⟨go, fun H' => ∃ acc' acc mc ρc, compGo it step n (i + 1) acc' mc = .ok ys h3 ∧ RepH X.K ρc mc H' ∧ Stp ρ1 h2 H1 ρc mc H' ∧ H' D = some (.lst acc) ∧ ¬ Mu ρc mc D ∧ Reps X.K ρc H' acc' acc, fun H' z => ⟨n, by omega, z⟩, fun xv H' hy => ?_⟩
            obtain ⟨ρy, Ry, Sy, ry⟩ := yl xv H' hy
            have keepD : ∀ {ρ2 m2 H2}, Stp ρc mc Hc ρ2 m2 H2 → H2 D = some (.lst acc) ∧ ¬ Mu ρ2 m2 D := fun {ρ2 m2 H2} S2 => ⟨S2.frm D _ nmc hDc, fun m => by
              rcases S2.new D m with z | z
              · exact nmc z
              · rw [hDc] at z; cases z⟩
            intro s Hh C cl fp
            rw [← hst] at e6
            simp only [lcStep] at e6
            split at e6
            · rename_i mσ2 e7
              refine hg s Hh C cl fp _ H' _ mσ2 mc ρy xv v Ry (wipe_rep ((RS1.stp R1 Sc).stp Rc Sy) _) ry e7 _ fun σ2 RS2 k2 => ?_
              refine ⟨wipe_eq (by rw [RS2.len]; have := (wipe_rep ((RS1.stp R1 Sc).stp Rc Sy) (own.map (·.2))).len; rw [wipe_length] at this; rw [this]; exact asgT_len e7) hsl k2, ?_⟩
              obtain ⟨b, m5, e8, e6⟩ := bind_ok e6
              intro s Hh C cl fp
              refine sts_run (ht s Hh C cl fp) Ry RS2 e8 fun H5 ρ5 R5 S5 => ?_
              have S5' := Sy.trans S5
              cases b with
              | true =>
                rw [if_pos rfl]
                obtain ⟨w, m6, e9, e6⟩ := bind_ok e6
                cases e6
                intro s Hh C cl fp
                refine he s Hh C cl fp σ2 H5 mσ2 m5 ρ5 R5 (RS2.stp Ry S5) w _ e9 _ fun vw H6 ρ6 R6 r6 S6 => ?_
                have S6' := S5'.trans S6
                obtain ⟨k1, k2⟩ := keepD S6'
                dsimp only at ec
                split at ec
                · rename_i hlt
                  refine ⟨acc, k1, by rw [← rc.length]; omega, acc' ++ [w], acc ++ [vw], m4, ρ6, ec, R6.out k1 trivial k2, (Sc.trans S6').out hD, upd_same, k2, ?_⟩
                  exact Reps.mono' (List.prefix_refl _) (fun q vs h => SqT.out k1 trivial h) _ _ ((rc.stp Rc S6').append (.one r6))
                · cases ec
              | false =>
                rw [if_neg Bool.false_ne_true]
                cases e6
                obtain ⟨k1, k2⟩ := keepD S5'
                exact ⟨acc', acc, m4, ρ5, ec, R5, Sc.trans S5', k1, k2, rc.stp Rc S5'⟩
            · cases e6
          · cases ec
    · cases e
  · cases e
theorem se_lc {elt tg iter : Expr} {ifs : List Expr} {scope : Scope} {own : List (Str × Nat)} {pos : Pos} {melt : ME} {mt : MT} {ik : IK} {mifs : List ME} (hc : X.calm = true) (hN : X.N.Nodup) (ok : BlkOk X.N X.env.scope scope own)
    (hi : SI X M tg iter ik ma mb) (hsl : ∀ i ∈ mt.slots, i ∈ own.map (·.2))
    (hg : ∀ (s : Shared) (H : Hp) (C : Addr) (cl : List (Str × Addr)) (fp : List Addr), SG (X.blk s H scope (compEnvC scope cl C X.env) fp) tg mt)
    (ht : ∀ (s : Shared) (H : Hp) (C : Addr) (cl : List (Str × Addr)) (fp : List Addr), STs (X.blk s H scope (compEnvC scope cl C X.env) fp) M ifs mifs)
    (he : ∀ (s : Shared) (H : Hp) (C : Addr) (cl : List (Str × Addr)) (fp : List Addr), SE (X.blk s H scope (compEnvC scope cl C X.env) fp) M elt melt)
    (hs : ∀ x, foldedSetIterable iter X.env x = pure x) : SE X M (.ListComp elt [⟨tg, iter, ifs, 0⟩] scope pos) (.lc melt mt ik ma mb mifs (own.map (·.2))) := by
  intro σ H mσ mh ρ R S mv mh' e Q P
  exact ⟨_, pe_lc hc hN pi_tIt ok (fun s H C cl fp => gLc_ok s H C cl fp) (fun s H C cl fp => ttLc_ok s H C cl fp) (fun s H C cl fp => teLc_ok s H C cl fp) hs, lc_rd hi hsl hg ht he R S e P⟩
/-! ### displays of dicts, ranges as lists and tuples -/
theorem KReps.put {ρ : List Addr} {H : Hp} {xs : List (Key × MV)} {vs : List (Key × V)} (h : KReps K ρ H xs vs) {ps : List (Key × MV)} {qs : List (Key × V)} (g : KReps K ρ H ps qs) :
    KReps K ρ H (ps.foldl (fun acc kv => Mn.putK kv.1 kv.2 acc) xs) (mergeK vs qs) := by
  induction g generalizing xs vs with
  | nil => exact h
  | cons a _ ih => exact ih (putK_rep a h)
def weave : List Expr → List Expr → List Expr
  | k :: ks, v :: vs => k :: v :: weave ks vs
  | _, _ => []
inductive SP2 (X : Cx) (M : Cm) : List Expr → List Expr → List ME → Prop
  | nil : SP2 X M [] [] []
  | cons {k v : Expr} {ks vs : List Expr} {mk mv : ME} {ms : List ME} : SE X M k mk → SE X M v mv → SP2 X M ks vs ms → SP2 X M (k :: ks) (v :: vs) (mk :: mv :: ms)
theorem sp2_run {ks vs : List Expr} {ms : List ME} (h : SP2 X M ks vs ms) : ∃ trs, PPs X pos (ks.map some) vs trs ∧
    ∀ σ H mσ mh ρ, RepH X.K ρ mh H → RepS X.K ρ H mσ σ → ∀ xs mh', evEs M ms mσ mh = .ok xs mh' → ∀ ps, pairUp xs = some ps → ∀ Q : List (V × V) → Hp → Prop,
      (∀ (qs : List (Key × V)) H' ρ', RepH X.K ρ' mh' H' → KReps X.K ρ' H' ps qs → Stp ρ mh H ρ' mh' H' → Q (qs.map fun kv => (kV kv.1, kv.2)) H') → tPairs trs σ H Q := by
  induction h with
  | nil =>
    refine ⟨[], pps_nil, fun σ H mσ mh ρ R S xs mh' e ps e2 Q P => ?_⟩
    simp only [evEs] at e
    cases e
    simp only [pairUp] at e2
    cases e2
    exact P [] H ρ R .nil .refl
  | cons h1 h2 _ ih =>
    obtain ⟨trs, g1, g2⟩ := ih
    refine ⟨_, pps_cons pe_tS pe_tS g1, fun σ H mσ mh ρ R S xs mh' e ps e4 Q P => ?_⟩
    simp only [evEs] at e
    obtain ⟨x, m1, e1, e⟩ := bind_ok e
    obtain ⟨xs2, m3, e3, e⟩ := bind_ok e
    cases e
    obtain ⟨y, m2, e2, e3⟩ := bind_ok e3
    obtain ⟨zs, m4, e5, e3⟩ := bind_ok e3
    cases e3
    simp only [pairUp] at e4
    split at e4
    · rename_i k ps2 hk hp
      cases e4
      refine h1 σ H mσ mh ρ R S x m1 e1 _ fun v H1 ρ1 R1 r1 S1 => ?_
      refine h2 σ H1 mσ m1 ρ1 R1 (S.stp R S1) y m2 e2 _ fun w H2 ρ2 R2 r2 S2 => ?_
      refine g2 σ H2 mσ m2 ρ2 R2 ((S.stp R S1).stp R1 S2) zs _ e5 ps2 hp _ fun qs H3 ρ3 R3 r3 S3 => ?_
      have := keyOf_rep r1 hk
      subst this
      exact P ((k, w) :: qs) H3 ρ3 R3 (.cons (r2.stp R2 S3) r3) ((S1.trans S2).trans S3)
    · cases e4
theorem pairUp_len : ∀ {xs : List MV} {ps : List (Key × MV)}, pairUp xs = some ps → xs.length = 2 * ps.length
  | [], _, h => by simp only [pairUp] at h; cases h; rfl
  | [x], _, h => by simp [pairUp] at h
  | x :: y :: r, _, h => by
    simp only [pairUp] at h
    split at h
    · cases h
      have := pairUp_len (xs := r) (by assumption)
      simp; omega
    · cases h
theorem se_dsp {ks vs : List Expr} {ms : List ME} (h : SP2 X M ks vs ms) (h15 : ks.length ≤ 15) : SE X M (.Dict (ks.map some) vs pos) (.dsp ms) := by
  intro σ H mσ mh ρ R S mv mh' e Q P
  simp only [evE] at e
  obtain ⟨xs, m1, e1, e⟩ := bind_ok e
  split at e
  · rename_i ps hps
    cases e
    cases h with
    | nil =>
      simp only [evEs] at e1
      cases e1
      simp only [pairUp] at hps
      cases hps
      refine ⟨_, pe_dnewK, fun p hn => ?_⟩
      obtain ⟨a, b⟩ := R.push (o := .dct []) (ho := .dK []) hn rfl fun H' h1 h2 => ⟨[], h2, .nil⟩
      exact P _ _ _ a (.ref (by rw [← R.len]; simp)) b
    | @cons k v ks vs mk mv ms a b c =>
      have hh : SP2 X M (k :: ks) (v :: vs) (mk :: mv :: ms) := .cons a b c
      obtain ⟨trs, g1, g2⟩ := sp2_run (pos := pos) hh
      have l1 : ∀ {ks vs : List Expr} {ms : List ME}, SP2 X M ks vs ms → ks.length = vs.length ∧ ms.length = 2 * ks.length := fun h => by
        induction h with
        | nil => exact ⟨rfl, rfl⟩
        | cons _ _ _ ih => simp; omega
      have hl : ((k :: ks).map some).length = (v :: vs).length := by simp [(l1 c).1]
      refine ⟨_, pe_disp g1 (by simp) hl (by simp) (by simpa using h15), fun p hn => ?_⟩
      obtain ⟨f1, f2, f3⟩ := R.fresh (ho := .dK []) hn
      have S' : RepS X.K ρ (upd H p (.dK [])) mσ σ := ⟨S.len, fun i m e => by
        obtain ⟨v, h1, h2⟩ := S.get i m e
        have := f3 (.one h2)
        obtain ⟨_, h3, h4⟩ := this.one'
        cases h3
        exact ⟨v, h1, h4⟩⟩
      refine g2 σ _ mσ mh ρ f1 S' xs _ e1 ps hps _ fun qs H2 ρ2 R2 r2 S2 => ?_
      have kD : H2 p = some (.dK []) := S2.frm p _ f2 upd_same
      have nm : ¬ Mu ρ2 m1 p := fun m => by
        rcases S2.new p m with z | z
        · exact f2 z
        · rw [upd_same] at z; cases z
      have hlen : qs.length ≤ 15 := by
        have h1 := evEs_len e1
        have h2 := pairUp_len hps
        have h3 := (l1 hh).2
        have h4 := r2.length
        omega
      refine ⟨kD, qs, rfl, hlen, ?_⟩
      have Ro := R2.out (ho := .dK (mergeK [] qs)) kD trivial nm
      have hz : ∀ q vs, SqT X.K H2 q vs → SqT X.K (upd H2 p (.dK (mergeK [] qs))) q vs := fun q vs h => SqT.out kD trivial h
      have Rq : KReps X.K (ρ2 ++ [p]) (upd H2 p (.dK (mergeK [] qs))) (ps.foldl (fun acc kv => Mn.putK kv.1 kv.2 acc) []) (mergeK [] qs) := KReps.mono' (List.prefix_append _ _) hz (KReps.put .nil r2)
      have St : Stp ρ mh H ρ2 m1 (upd H2 p (.dK (mergeK [] qs))) := ⟨S2.pre, fun q m => by
        rcases S2.new q m with z | z
        · exact .inl z
        · by_cases hq : q = p
          · subst hq; exact .inr hn
          · rw [upd_ne hq] at z; exact .inr z, fun q o n h => by
        have hq : q ≠ p := ne_of_none h hn
        rw [upd_ne hq]
        exact S2.frm q o n (by rw [upd_ne hq]; exact h)⟩
      exact P _ _ _ (Ro.adoptO nm ⟨_, upd_same, Rq⟩) (.ref (by rw [← R2.len]; simp)) (St.adopt R2.len hn)
  · cases e
theorem rngM_ok {x y : MV} {xs : List MV} (e : rngM x y = some xs) : ∃ i j, x = .int i ∧ y = .int j ∧ RgOk i j ∧ xs = rngI i (j - i).toNat := by
  unfold rngM at e
  split at e
  · split at e
    · cases e
      rename_i h
      exact ⟨_, _, rfl, rfl, ⟨h.1, h.2.1, h.2.2.1, h.2.2.2.1, Nat.le_trans h.2.2.2.2 (by decide)⟩, rfl⟩
    · cases e
  · cases e
theorem rng_reps {ρ : List Addr} {H : Hp} {i j : Int} : Reps K ρ H (rngI i (j - i).toNat) (rgV i j) := by
  unfold rngI rgV
  generalize List.range (j - i).toNat = l
  induction l with
  | nil => exact .nil
  | cons a l ih => exact .cons (.int _) ih
/-- list(range(..)), tuple(range(..)): r tells how the range is written -/
theorem se_rngL {p : Pos} {e : Expr} {te : L2.St → Hp → (Int → Int → Hp → Prop) → Prop} (hc : X.calm = true) (hg : Gl X "list") (hm : X.mg "list" = none) (he : PRg X e te) (na : starEach [e] X.env = (false, eval e X.env) :: starEach [] X.env)
    (h : ∀ σ H mσ mh ρ, RepH X.K ρ mh H → RepS X.K ρ H mσ σ → ∀ x h1 y h2, evE M ma mσ mh = .ok x h1 → evE M mb mσ h1 = .ok y h2 → ∀ i j, x = .int i → y = .int j → ∀ Q : Int → Int → Hp → Prop, (∀ H' ρ', RepH X.K ρ' h2 H' → Stp ρ mh H ρ' h2 H' → Q i j H') → te σ H Q) :
    SE X M (.Call (.Name "list" p) [e] [] pos) (.rngL ma mb) := by
  intro σ H mσ mh ρ R S mv mh' e Q P
  simp only [evE] at e
  obtain ⟨x, h1, e1, e⟩ := bind_ok e
  obtain ⟨y, h2, e2, e⟩ := bind_ok e
  split at e
  · rename_i xs hx
    obtain ⟨i, j, rfl, rfl, ok, rfl⟩ := rngM_ok hx
    cases e
    refine ⟨_, pe_listRg hc hg hm he na, h σ H mσ mh ρ R S _ h1 _ h2 e1 e2 i j rfl rfl _ fun H' ρ' R' S' => ⟨ok, fun q hn => (P.after S').newL R' rng_reps hn⟩⟩
  · cases e
theorem se_rngT {p : Pos} {e : Expr} {te : L2.St → Hp → (Int → Int → Hp → Prop) → Prop} (hc : X.calm = true) (hg : Gl X "tuple") (hm : X.mg "tuple" = none) (he : PRg X e te) (na : starEach [e] X.env = (false, eval e X.env) :: starEach [] X.env)
    (h : ∀ σ H mσ mh ρ, RepH X.K ρ mh H → RepS X.K ρ H mσ σ → ∀ x h1 y h2, evE M ma mσ mh = .ok x h1 → evE M mb mσ h1 = .ok y h2 → ∀ i j, x = .int i → y = .int j → ∀ Q : Int → Int → Hp → Prop, (∀ H' ρ', RepH X.K ρ' h2 H' → Stp ρ mh H ρ' h2 H' → Q i j H') → te σ H Q) :
    SE X M (.Call (.Name "tuple" p) [e] [] pos) (.rngT ma mb) := by
  intro σ H mσ mh ρ R S mv mh' e Q P
  simp only [evE] at e
  obtain ⟨x, h1, e1, e⟩ := bind_ok e
  obtain ⟨y, h2, e2, e⟩ := bind_ok e
  split at e
  · rename_i xs hx
    obtain ⟨i, j, rfl, rfl, ok, rfl⟩ := rngM_ok hx
    cases e
    refine ⟨_, pe_tupRg hc hg hm he na, h σ H mσ mh ρ R S _ h1 _ _ e1 e2 i j rfl rfl _ fun H' ρ' R' S' => ⟨ok, fun q hn => (P.after S').newT R' rng_reps hn⟩⟩
  · cases e
theorem rg1_ok {p2 p : Pos} (ha : SE X M a ma) (hg : Gl X "range") (hm : X.mg "range" = none) (hs : starEach [a] X.env = (false, eval a X.env) :: starEach [] X.env) : ∃ te, PRg X (.Call (.Name "range" p) [a] [] p2) te ∧
    ∀ σ H mσ mh ρ, RepH X.K ρ mh H → RepS X.K ρ H mσ σ → ∀ x h1 y h2, evE M (.c (.int 0)) mσ mh = .ok x h1 → evE M ma mσ h1 = .ok y h2 → ∀ i j, x = .int i → y = .int j → ∀ Q : Int → Int → Hp → Prop, (∀ H' ρ', RepH X.K ρ' h2 H' → Stp ρ mh H ρ' h2 H' → Q i j H') → te σ H Q := by
  refine ⟨_, prg_1 hg hm pe_tS hs, fun σ H mσ mh ρ R S x h1 y h2 e1 e2 i j hi hj Q P => ?_⟩
  subst hi hj
  simp only [evE] at e1
  cases e1
  refine ha σ H mσ mh ρ R S _ _ e2 _ fun v H1 ρ1 R1 r1 S1 => ?_
  cases r1
  exact ⟨j, rfl, P H1 ρ1 R1 S1⟩
theorem rg2_ok {p2 p : Pos} (ha : SE X M a ma) (hb : SE X M b mb) (hg : Gl X "range") (hm : X.mg "range" = none) (hs : starEach [a, b] X.env = (false, eval a X.env) :: starEach [b] X.env) (hs2 : starEach [b] X.env = (false, eval b X.env) :: starEach [] X.env) :
    ∃ te, PRg X (.Call (.Name "range" p) [a, b] [] p2) te ∧
    ∀ σ H mσ mh ρ, RepH X.K ρ mh H → RepS X.K ρ H mσ σ → ∀ x h1 y h2, evE M ma mσ mh = .ok x h1 → evE M mb mσ h1 = .ok y h2 → ∀ i j, x = .int i → y = .int j → ∀ Q : Int → Int → Hp → Prop, (∀ H' ρ', RepH X.K ρ' h2 H' → Stp ρ mh H ρ' h2 H' → Q i j H') → te σ H Q := by
  refine ⟨_, prg_2 hg hm pe_tS pe_tS hs hs2 (by rw [hs2]; rfl), fun σ H mσ mh ρ R S x h1 y h2 e1 e2 i j hi hj Q P => ?_⟩
  subst hi hj
  refine ha σ H mσ mh ρ R S _ _ e1 _ fun v H1 ρ1 R1 r1 S1 => ?_
  refine hb σ H1 mσ h1 ρ1 R1 (S.stp R S1) _ _ e2 _ fun w H2 ρ2 R2 r2 S2 => ?_
  cases r1; cases r2
  exact ⟨i, j, rfl, rfl, P H2 ρ2 R2 (S1.trans S2)⟩
end
end Mn

set_option maxHeartbeats 4000000
/-! Snd3: calls, methods, statements, functions. -/
namespace Mn
open PySem PySem.Spec PyProof.Rows L2

/-- nothing is raised -/
def NoX : CXT := fun _ _ _ _ _ _ => False
/-- a def keeps its promise where no guarded code runs -/
structure FnG (P : Program) (w : World) (K : PySem.W.Frag) (mg : Str → Option Value) (base : Heap) (k : Nat) (f : Addr) (fd : FuncData) (ps : List Str) (sp : Sp) : Prop where
  len : ∀ vs H Q E, sp vs H Q E → vs.length = ps.length
  run : ∀ (A : Around) (outer : List Env) (s : Shared) (H : Hp) (args : Args) (us : List Value) (vs : List V) (Q : VK) (E : XK), A.guards = some [] → Room k A → Env0 P w K mg base A outer s H →
    BindsTo s fd args (ps.zip us) → Vals vs us → sp vs H Q E → codeAny (model P w) A (.call (.ref f) args) (CR NoX outer P w H s Q E) s
theorem FnG.mono {P : Program} {w : World} {K : PySem.W.Frag} {mg : Str → Option Value} {base : Heap} {j k : Nat} {f : Addr} {fd : FuncData} {ps : List Str} {sp : Sp} (F : FnG P w K mg base j f fd ps sp) (h : j ≤ k) : FnG P w K mg base k f fd ps sp :=
  ⟨F.len, fun A outer s H args us vs Q E hg hr => F.run A outer s H args us vs Q E hg (hr.mono h)⟩
/-- the small run of f as a promise -/
def spM (K : PySem.W.Frag) (call : Str → List MV → MH → R MV) (f : Str) (n : Nat) : Sp := fun ws H Q _ =>
  ∃ ρ mh vs mv mh', RepH K ρ mh H ∧ Reps K ρ H vs ws ∧ vs.length = n ∧ call f vs mh = .ok mv mh' ∧ Post K ρ mh H mv mh' Q
/-- what a body may lean on -/
structure EC (X : Cx) (M : Cm) (F B : List Str) (k : Nat) : Prop where
  calm : X.calm = true
  nd : X.N.Nodup
  gd : X.A.guards = some []
  room : Room k X.A
  call : ∀ f ∈ F, ∃ (fa : Addr) (fd : FuncData) (ps : List Str), X.mg f = some (.ref fa) ∧ PySem.W.keepIn X.K (.ref fa) = true ∧ Binds X.K fd ps [] ∧ FnG X.prog X.w X.K X.mg X.base k fa fd ps (spM X.K M.call f ps.length) ∧
    ∀ vs mh mv mh', M.call f vs mh = .ok mv mh' → vs.length = ps.length
  blt : ∀ x ∈ B, X.mg x = none
  gl : ∀ x v, M.gl x = some v → ∃ u w, X.mg x = some u ∧ RelV w u ∧ ∀ ρ H, Rep X.K ρ H v w
theorem EC.blk {X : Cx} {M : Cm} {F B : List Str} {k : Nat} (c : EC X M F B k) (s : Shared) (H : Hp) (scope : Scope) (cenv : Env) (fp : List Addr) : EC (X.blk s H scope cenv fp) M F B k := ⟨c.calm, c.nd, c.gd, c.room, c.call, c.blt, c.gl⟩
theorem EC.un {X : Cx} {M : Cm} {F B : List Str} {k : Nat} (c : EC X M F B k) : X.A.units + 100 < cLine := by have := c.room.un; omega
section
variable {X : Cx} {M : Cm} {F B : List Str} {k : Nat} {a : Expr} {es : List Expr} {ma : ME} {mes : List ME} {pos p : Pos}
/-- a call of one of the program's defs -/
theorem se_call (c : EC X M F B k) {f : Str} (hf : f ∈ F) (hg : Gl X f) (hdb : (f == ("__debug__" : Str)) = false) (he : starEach (a :: es) X.env = (false, eval a X.env) :: starEach es X.env)
    (hpl : (backTo pos (starEach es X.env)).any (·.1) = false) (h : SA X M (a :: es) mes) : SE X M (.Call (.Name f p) (a :: es) [] pos) (.call f mes) := by
  intro σ H mσ mh ρ R S mv mh' e Q P
  simp only [evE] at e
  obtain ⟨xs, h1, e1, e⟩ := bind_ok e
  obtain ⟨fa, fd, ps, hm, hk, hb, FF, hlen⟩ := c.call f hf
  refine ⟨fun σ H Q => tA X (a :: es) σ H fun ws H1 => spM X.K M.call f ps.length ws H1 Q fun _ _ _ => False, ⟨fun pins s σ H Q I hq => ?_⟩, ?_⟩
  · refine wpAny_Call_Name_kw (ld_glob I hg hm ?_ hdb)
    refine PySem.W.callWith_K (h₀ := X.base) I.ok.mod.kin hk (thn (pa_tA.run pos pins s σ H _ I hq) fun us s1 ⟨vs, H1, I1, r, q⟩ => ⟨I1.kIn, ?_⟩) he hpl
    have hl : vs.length = ps.length := FF.len vs H1 Q _ q
    have hl2 : (us ++ []).length = ps.length := by rw [List.append_nil, ← r.length]; exact hl
    have hb' := hb s1 us I1.kIn hl2
    rw [List.append_nil] at hb'
    refine wpAny_call (codeAny_mono (FF.run X.A X.stack s1 H1 ⟨us, []⟩ us vs Q _ c.gd c.room I1.env0 hb' r q) fun r s' hq => ?_)
    cases r with
    | error e => exact (show False from hq).elim
    | ok fl =>
      cases fl with
      | ret u => exact I1.after hq
      | _ => exact False.elim hq
  · refine h σ H mσ mh ρ R S xs h1 e1 _ fun ws H1 ρ1 R1 r1 S1 => ?_
    exact ⟨ρ1, h1, xs, mv, mh', R1, r1, hlen _ _ _ _ e, e, P.after S1⟩
theorem se_call0 (c : EC X M F B k) {f : Str} (hf : f ∈ F) (hg : Gl X f) (hdb : (f == ("__debug__" : Str)) = false) : SE X M (.Call (.Name f p) [] [] pos) (.call f []) := by
  intro σ H mσ mh ρ R S mv mh' e Q P
  simp only [evE, evEs, Mn.R.bind] at e
  obtain ⟨fa, fd, ps, hm, hk, hb, FF, hlen⟩ := c.call f hf
  refine ⟨fun σ H Q => spM X.K M.call f ps.length [] H Q fun _ _ _ => False, ⟨fun pins s σ H Q I q => ?_⟩, ⟨ρ, mh, [], mv, mh', R, .nil, hlen _ _ _ _ e, e, P⟩⟩
  refine wpAny_Call_Name_kw (ld_glob I hg hm ?_ hdb)
  have hl : ([] : List V).length = ps.length := FF.len [] H Q _ q
  have hb' := hb s [] I.kIn hl
  refine PySem.W.callWith_K0 I.kIn hk (wpAny_call (codeAny_mono (FF.run X.A X.stack s H ⟨[], []⟩ [] [] Q _ c.gd c.room I.env0 hb' .nil q) fun r s' hq => ?_))
  cases r with
  | error e => exact (show False from hq).elim
  | ok fl =>
    cases fl with
    | ret u => exact I.after hq
    | _ => exact False.elim hq
/-! ### methods -/
theorem kd_list {mh : MH} {x : MV} (e : kdM mh x = some .list) : ∃ l, x = .ref l ∧ ∃ xs, lsts mh l = some xs := by
  cases x <;> simp only [kdM] at e <;> try cases e
  rename_i l
  refine ⟨l, rfl, ?_⟩
  split at e <;> first | (cases e; done) | (rename_i h; exact ⟨_, by unfold lsts; rw [h]⟩)
theorem kd_dict {mh : MH} {x : MV} (e : kdM mh x = some .dict) : ∃ l, x = .ref l ∧ ∃ xs, mh[l]? = some (.dct xs) := by
  cases x <;> simp only [kdM] at e <;> try cases e
  rename_i l
  refine ⟨l, rfl, ?_⟩
  split at e <;> first | (cases e; done) | (rename_i h; exact ⟨_, h⟩)
structure MethSide (X : Cx) (o : Expr) (m : Str) (apos : Pos) (es : List Expr) (cpos : Pos) : Prop where
  base : attributeBase o m X.env (eval o X.env) = eval o X.env
  few : ((backTo cpos (starEach es X.env)).all (fun x => !x.1) && (backToKw cpos (keywordEach [] X.env)).all (fun x => x.1.isSome)
    && decide (es.length + ([] : List Keyword).length + (if ([] : List Keyword).isEmpty then 0 else 1) < 30)) = true
  line : (apos.endLine == cpos.line) = true
/-- o.m(e, ..), o a list, or d.get(k), d.get(k, x) -/
theorem se_meth (c : EC X M F B k) {m : Me} {o : Expr} {mo : ME} {apos : Pos} (hm : MethSide X o m.nm apos (a :: es) pos) (ho : SE X M o mo) (he : starEach (a :: es) X.env = (false, eval a X.env) :: starEach es X.env) (hpl : (backTo pos (starEach es X.env)).any (·.1) = false)
    (h : SA X M (a :: es) mes) (hget : m = .get → (∃ ma, mes = [ma] ∧ es = [] ∧ SE X M a ma ∧ backTo pos (starEach [a] X.env) = [(false, eval a X.env)]) ∨ ∃ b ma mb, mes = [ma, mb] ∧ es = [b] ∧ SE X M a ma ∧ SE X M b mb ∧ backTo pos (starEach [a, b] X.env) = [(false, eval a X.env), (false, eval b X.env)]) :
    SE X M (.Call (.Attribute o m.nm apos) (a :: es) [] pos) (.meth m mo mes) := by
  intro σ H mσ mh ρ R S mv mh' e Q P
  simp only [evE] at e
  obtain ⟨x, h1, e1, e⟩ := bind_ok e
  have hu1 : X.A.units + 1 < cLine := by have := c.un; omega
  cases hk : kdM h1 x with
  | none => rw [hk] at e; cases e
  | some kd =>
    rw [hk] at e
    obtain ⟨vs, h2, e2, e⟩ := bind_ok e
    cases kd with
    | list =>
      obtain ⟨l, rfl, ys, hl⟩ := kd_list hk
      obtain ⟨id, r, sl, ty, hr, hq⟩ := lmS (X := X) c.calm e
      refine ⟨_, pe_bm PySem.F.plainAttrs_list sl ty hr pe_tS pa_tA hm.base hm.few hm.line he hpl, ?_⟩
      refine ho σ H mσ mh ρ R S _ h1 e1 _ fun v H1 ρ1 R1 r1 S1 => ?_
      cases r1 with
      | @ref _ p hp =>
        obtain ⟨us, s, _⟩ := R1.lsts hp hl
        refine ⟨.inl ⟨rfl, us, s⟩, ?_⟩
        refine h σ H1 mσ h1 ρ1 R1 (S.stp R S1) vs h2 e2 _ fun ws H2 ρ2 R2 r2 S2 => ?_
        exact hq ρ2 H2 p ws R2 (prefix_get S2.pre hp) r2 Q (P.after (S1.trans S2))
    | dict =>
      obtain ⟨l, rfl, kvs, hd⟩ := kd_dict hk
      have nd : ∀ {n}, m ≠ .get → methM m .dict (.ref l) vs h2 ≠ .ok mv n := fun {n} hn z => by
        simp only [methM] at z
        split at z
        · rename_i q; cases q
        · cases m <;> simp_all
        · cases z
      by_cases hg : m = .get
      · subst hg
        rcases hget rfl with ⟨ma, rfl, rfl, ha, htr⟩ | ⟨b, ma, mb, rfl, rfl, ha, hb, htr⟩
        · refine ⟨_, pe_dget1 hu1 pe_tS pe_tS ⟨hm.base, hm.few, hm.line, htr⟩, ?_⟩
          refine ho σ H mσ mh ρ R S _ h1 e1 _ fun v H1 ρ1 R1 r1 S1 => ?_
          simp only [evEs] at e2
          obtain ⟨y, h3, e3, e2⟩ := bind_ok e2
          simp only [Mn.R.bind] at e2
          cases e2
          cases r1 with
          | @ref _ p hp =>
            obtain ⟨us, s, _⟩ := R1.dct hp hd
            refine ⟨p, rfl, .inl ⟨us, .of s⟩, ?_⟩
            refine ha σ H1 mσ h1 ρ1 R1 (S.stp R S1) y _ e3 _ fun w H2 ρ2 R2 r2 S2 => ?_
            simp only [methM] at e
            split at e
            · rename_i q; cases q
            · rename_i kvs2 hd2 _
              split at e
              · rename_i kk hkk
                cases e
                obtain ⟨us2, s2, rk⟩ := R2.dct (prefix_get S2.pre hp) hd2
                have := keyOf_rep r2 hkk
                subst this
                obtain ⟨g1, g2⟩ := getK_rep (k := kk) rk
                refine ⟨valV us2 kk, .k s2, ?_⟩
                cases z : getK kk kvs2 with
                | none => rw [g2 z]; rw [z] at P; exact P _ _ _ R2 .non (S1.trans S2)
                | some m => obtain ⟨v, g, rv⟩ := g1 m z; rw [g]; rw [z] at P; exact P _ _ _ R2 rv (S1.trans S2)
              · cases e
            · cases e
        · refine ⟨_, pe_dget2 hu1 pe_tS pe_tS pe_tS ⟨hm.base, hm.few, hm.line, htr⟩, ?_⟩
          refine ho σ H mσ mh ρ R S _ h1 e1 _ fun v H1 ρ1 R1 r1 S1 => ?_
          simp only [evEs] at e2
          obtain ⟨y, h3, e3, e2⟩ := bind_ok e2
          obtain ⟨zs, h4, e4, e2⟩ := bind_ok e2
          cases e2
          obtain ⟨z, h5, e5, e4⟩ := bind_ok e4
          simp only [Mn.R.bind] at e4
          cases e4
          cases r1 with
          | @ref _ p hp =>
            obtain ⟨us, s, _⟩ := R1.dct hp hd
            refine ⟨p, rfl, .inl ⟨us, .of s⟩, ?_⟩
            refine ha σ H1 mσ h1 ρ1 R1 (S.stp R S1) y _ e3 _ fun w H2 ρ2 R2 r2 S2 => ?_
            refine hb σ H2 mσ h3 ρ2 R2 ((S.stp R S1).stp R1 S2) z _ e5 _ fun w3 H3 ρ3 R3 r3 S3 => ?_
            simp only [methM] at e
            split at e
            · rename_i q; cases q
            · rename_i kvs2 hd2 _
              split at e
              · rename_i kk hkk
                cases e
                obtain ⟨us2, s2, rk⟩ := R3.dct (prefix_get S3.pre (prefix_get S2.pre hp)) hd2
                have := keyOf_rep (r2.stp R2 S3) hkk
                subst this
                obtain ⟨g1, g2⟩ := getK_rep (k := kk) rk
                refine ⟨valV us2 kk, .k s2, ?_⟩
                cases z : getK kk kvs2 with
                | none => rw [g2 z]; rw [z] at P; exact P _ _ _ R3 r3 ((S1.trans S2).trans S3)
                | some m => obtain ⟨v, g, rv⟩ := g1 m z; rw [g]; rw [z] at P; exact P _ _ _ R3 rv ((S1.trans S2).trans S3)
              · cases e
            · cases e
      · exact absurd e (nd hg)
    | str =>
      exfalso
      cases x <;> simp only [kdM] at hk <;> try cases hk
      · simp [methM] at e
      · split at hk <;> cases hk
    | tuple =>
      exfalso
      cases x <;> simp only [kdM] at hk <;> try cases hk
      · simp [methM] at e
      · split at hk <;> cases hk
/-- o.m(), o a list -/
theorem se_meth0 (c : EC X M F B k) {m : Me} {o : Expr} {mo : ME} {apos : Pos} (hbase : attributeBase o m.nm X.env (eval o X.env) = eval o X.env) (hline : (apos.endLine == pos.line) = true) (ho : SE X M o mo) :
    SE X M (.Call (.Attribute o m.nm apos) [] [] pos) (.meth m mo []) := by
  intro σ H mσ mh ρ R S mv mh' e Q P
  simp only [evE] at e
  obtain ⟨x, h1, e1, e⟩ := bind_ok e
  cases hk : kdM h1 x with
  | none => rw [hk] at e; cases e
  | some kd =>
    rw [hk] at e
    simp only [evEs, Mn.R.bind] at e
    cases kd with
    | list =>
      obtain ⟨l, rfl, ys, hl⟩ := kd_list hk
      obtain ⟨id, r, sl, ty, hr, hq⟩ := lmS (X := X) c.calm e
      refine ⟨_, pe_bm0 PySem.F.plainAttrs_list sl ty hr pe_tS hbase hline, ?_⟩
      refine ho σ H mσ mh ρ R S _ h1 e1 _ fun v H1 ρ1 R1 r1 S1 => ?_
      cases r1 with
      | @ref _ p hp =>
        obtain ⟨us, s, _⟩ := R1.lsts hp hl
        exact ⟨.inl ⟨rfl, us, s⟩, hq ρ1 H1 p [] R1 hp .nil Q (P.after S1)⟩
    | dict =>
      obtain ⟨l, rfl, kvs, hd⟩ := kd_dict hk
      simp only [methM] at e
      split at e
      · rename_i q; cases q
      · cases m <;> simp_all
      · cases e
    | str =>
      exfalso
      cases x <;> simp only [kdM] at hk <;> try cases hk
      · simp [methM] at e
      · split at hk <;> cases hk
    | tuple =>
      exfalso
      cases x <;> simp only [kdM] at hk <;> try cases hk
      · simp [methM] at e
      · split at hk <;> cases hk
end
/-! ### statements -/
def EndsOk (K : PySem.W.Frag) (ρ : List Addr) (mh : MH) (H : Hp) (fl : Fl) (mh' : MH) (D : Ends) : Prop :=
  match fl with
  | .nx mσ => ∀ σ' H' ρ', RepH K ρ' mh' H' → RepS K ρ' H' mσ σ' → Stp ρ mh H ρ' mh' H' → D.nx σ' H'
  | .brk mσ => ∀ σ' H' ρ', RepH K ρ' mh' H' → RepS K ρ' H' mσ σ' → Stp ρ mh H ρ' mh' H' → D.bk σ' H'
  | .cont mσ => ∀ σ' H' ρ', RepH K ρ' mh' H' → RepS K ρ' H' mσ σ' → Stp ρ mh H ρ' mh' H' → D.ct σ' H'
  | .ret mv => Post K ρ mh H mv mh' D.rt
theorem EndsOk.after {K : PySem.W.Frag} {ρ ρ1 : List Addr} {mh m1 mh' : MH} {H H1 : Hp} {fl : Fl} {D : Ends} (P : EndsOk K ρ mh H fl mh' D) (S : Stp ρ mh H ρ1 m1 H1) : EndsOk K ρ1 m1 H1 fl mh' D := by
  cases fl with
  | ret mv => exact Post.after P S
  | _ => exact fun σ' H' ρ' a b c => P σ' H' ρ' a b (S.trans c)
def SS (X : Cx) (M : Cm) (s : Stmt) (ms : MS) : Prop :=
  ∀ σ H mσ mh ρ, RepH X.K ρ mh H → RepS X.K ρ H mσ σ → ∀ fl mh', evS M ms mσ mh = .ok fl mh' → ∀ D, EndsOk X.K ρ mh H fl mh' D → tS1 X s D σ H
def SSs (X : Cx) (M : Cm) (ss : List Stmt) (mss : List MS) : Prop :=
  ∀ σ H mσ mh ρ, RepH X.K ρ mh H → RepS X.K ρ H mσ σ → ∀ fl mh', evSs M mss mσ mh = .ok fl mh' → ∀ D, EndsOk X.K ρ mh H fl mh' D → tSS X ss D σ H
section
variable {X : Cx} {M : Cm} {F B : List Str} {k : Nat} {a b o i : Expr} {ma mb mo mi : ME} {pos : Pos} {st : Stmt} {ss ts : List Stmt} {ms : MS} {mss mts : List MS}
theorem sss_nil : SSs X M [] [] := by
  intro σ H mσ mh ρ R S fl mh' e D P
  simp only [evSs] at e
  cases e
  exact ⟨_, pss_nil, P σ H ρ R S .refl⟩
theorem sss_cons (h1 : SS X M st ms) (h2 : SSs X M ss mss) : SSs X M (st :: ss) (ms :: mss) := by
  intro σ H mσ mh ρ R S fl mh' e D P
  simp only [evSs] at e
  obtain ⟨f1, m1, e1, e⟩ := bind_ok e
  refine ⟨_, pss_cons ps_tS1 pss_tSS, h1 σ H mσ mh ρ R S f1 m1 e1 _ ?_⟩
  cases f1 with
  | nx mσ1 => exact fun σ1 H1 ρ1 R1 S1 T1 => h2 σ1 H1 mσ1 m1 ρ1 R1 S1 fl mh' e D (P.after T1)
  | ret v => cases e; exact P
  | brk _ => cases e; exact P
  | cont _ => cases e; exact P
theorem ss_pass : SS X M (.Pass pos) .pass := by
  intro σ H mσ mh ρ R S fl mh' e D P
  simp only [evS] at e; cases e
  exact ⟨_, ps_pass, P σ H ρ R S .refl⟩
theorem ss_brk : SS X M (.Break pos) .brk := by
  intro σ H mσ mh ρ R S fl mh' e D P
  simp only [evS] at e; cases e
  exact ⟨_, ps_break, P σ H ρ R S .refl⟩
theorem ss_cont : SS X M (.Continue pos) .cont := by
  intro σ H mσ mh ρ R S fl mh' e D P
  simp only [evS] at e; cases e
  exact ⟨_, ps_continue, P σ H ρ R S .refl⟩
theorem ss_expr (hs : swapsWith a none pos.line X.env = pure false) (ha : SE X M a ma) : SS X M (.Expr a pos) (.expr ma) := by
  intro σ H mσ mh ρ R S fl mh' e D P
  simp only [evS] at e
  obtain ⟨x, h1, e1, e⟩ := bind_ok e
  cases e
  exact ⟨_, ps_expr pe_tS hs, ha σ H mσ mh ρ R S x _ e1 _ fun v H1 ρ1 R1 r1 S1 => P σ H1 ρ1 R1 (S.stp R S1) S1⟩
theorem ss_doc {x : Str} {j : Nat} {p2 : Pos} : SS X M (.Expr (.Constant (.str x) j p2) pos) .pass := by
  intro σ H mσ mh ρ R S fl mh' e D P
  simp only [evS] at e; cases e
  exact ⟨_, ps_doc, P σ H ρ R S .refl⟩
theorem ss_ret (ha : SE X M a ma) : SS X M (.Return (some a) pos) (.ret ma) := by
  intro σ H mσ mh ρ R S fl mh' e D P
  simp only [evS] at e
  obtain ⟨x, h1, e1, e⟩ := bind_ok e
  cases e
  exact ⟨_, ps_ret pe_tS, ha σ H mσ mh ρ R S x _ e1 _ P⟩
theorem ss_retN : SS X M (.Return none pos) .retN := by
  intro σ H mσ mh ρ R S fl mh' e D P
  simp only [evS] at e
  cases e
  exact ⟨_, ps_retN, Post.same P R .non⟩
theorem ss_ite (hc : ST X M a ma) (h1 : SSs X M ss mss) (h2 : SSs X M ts mts) : SS X M (.If a ss ts pos) (.ite ma mss mts) := by
  intro σ H mσ mh ρ R S fl mh' e D P
  simp only [evS] at e
  obtain ⟨x, m1, e1, e⟩ := bind_ok e
  refine ⟨_, ps_if pt_tT pss_tSS pss_tSS, ?_⟩
  split at e
  · refine hc σ H mσ mh ρ R S x m1 e1 true (by assumption) _ fun H1 ρ1 R1 S1 => ?_
    rw [if_pos rfl]
    exact h1 σ H1 mσ m1 ρ1 R1 (S.stp R S1) fl mh' e D (P.after S1)
  · refine hc σ H mσ mh ρ R S x m1 e1 false (by assumption) _ fun H1 ρ1 R1 S1 => ?_
    rw [if_neg Bool.false_ne_true]
    exact h2 σ H1 mσ m1 ρ1 R1 (S.stp R S1) fl mh' e D (P.after S1)
  · cases e
theorem ofO_ok {α : Type} {o : Option α} {h h' : MH} {v : α} (e : ofO o h = .ok v h') : o = some v ∧ h' = h := by
  cases o with
  | none => cases e
  | some b => cases e; exact ⟨rfl, rfl⟩
theorem ss_asg {tg : Expr} {mt : MT} (hs : swapsWithSole [tg] a pos.line X.env = pure false) (hw : swappedStores [tg] a X.env = pure none) (h1 : (assignEach [tg] X.env).map (·.2) = [assign tg X.env]) (ha : SE X M a ma) (hg : SG X tg mt) : SS X M (.Assign [tg] a pos) (.asg mt ma) := by
  intro σ H mσ mh ρ R S fl mh' e D P
  simp only [evS] at e
  obtain ⟨x, m1, e1, e⟩ := bind_ok e
  obtain ⟨e2, rfl⟩ := ofO_ok e
  cases q : asgT mt x mσ with
  | none => rw [q] at e2; cases e2
  | some mσ1 =>
    rw [q] at e2
    cases e2
    refine ⟨_, ps_asg pe_tS pg_tGt hs hw h1, ha σ H mσ mh ρ R S x _ e1 _ fun v H1 ρ1 R1 r1 S1 => ?_⟩
    exact hg σ H1 mσ mσ1 _ ρ1 v x R1 (S.stp R S1) r1 q _ fun σ' S' _ => P σ' H1 ρ1 R1 S' S1
/-- y = [..] on one line -/
theorem ss_asgLc {y : Str} {py : Pos} {j : Nat} {elt tg iter : Expr} {ifs : List Expr} {scope : Scope} {own : List (Str × Nat)} {lpos : Pos} {melt : ME} {mt : MT} {ik : IK} {mifs : List ME} (hc : X.calm = true) (hN : X.N.Nodup) (hy : X.N[j]? = some y) (hyl : X.env.scope.names.lookup y = some .local)
    (hsw : swapsWith (.ListComp elt [⟨tg, iter, ifs, 0⟩] scope lpos) (some (.Name y py)) pos.line X.env = pure true) (ok : BlkOk X.N X.env.scope scope own)
    (hi : SI X M tg iter ik ma mb) (hsl : ∀ i ∈ mt.slots, i ∈ own.map (·.2))
    (hg : ∀ (s : Shared) (H : Hp) (C : Addr) (cl : List (Str × Addr)) (fp : List Addr), SG (X.blk s H scope (compEnvC scope cl C X.env) fp) tg mt)
    (ht : ∀ (s : Shared) (H : Hp) (C : Addr) (cl : List (Str × Addr)) (fp : List Addr), STs (X.blk s H scope (compEnvC scope cl C X.env) fp) M ifs mifs)
    (he : ∀ (s : Shared) (H : Hp) (C : Addr) (cl : List (Str × Addr)) (fp : List Addr), SE (X.blk s H scope (compEnvC scope cl C X.env) fp) M elt melt)
    (hs : ∀ x, foldedSetIterable iter X.env x = pure x) :
    SS X M (.Assign [.Name y py] (.ListComp elt [⟨tg, iter, ifs, 0⟩] scope lpos) pos) (.asg (.nm j) (.lc melt mt ik ma mb mifs (own.map (·.2)))) := by
  intro σ H mσ mh ρ R S fl mh' e D P
  simp only [evS] at e
  obtain ⟨x, m1, e1, e⟩ := bind_ok e
  obtain ⟨e2, rfl⟩ := ofO_ok e
  simp only [asgT, Option.map_some, Option.some.injEq] at e2
  subst e2
  refine ⟨_, ps_setLc hc hN hy hyl hsw pi_tIt ok (fun s H C cl fp => gLc_ok s H C cl fp) (fun s H C cl fp => ttLc_ok s H C cl fp) (fun s H C cl fp => teLc_ok s H C cl fp) hs, ?_⟩
  exact lc_rd (Q := fun v H1 => D.nx (σ.set j (some v)) H1) hi hsl hg ht he R S e1 fun v H1 ρ1 R1 r1 S1 => P _ H1 ρ1 R1 ((S.stp R S1).set r1 j) S1
theorem ss_asgSub (hu : X.A.units + 1 < cLine) {p2 : Pos} (hs : swapsWithSole [.Subscript o i p2] a pos.line X.env = pure false) (hw : swappedStores [.Subscript o i p2] a X.env = pure none)
    (h1 : (assignEach [.Subscript o i p2] X.env).map (·.2) = [assign (.Subscript o i p2) X.env]) (hsub : ∀ {t : TSet}, PSet X t → PG X (.Subscript o i p2) (gSub (tS X o) (tS X i) t))
    (ha : SE X M a ma) (ho : SE X M o mo) (hi : SE X M i mi) : SS X M (.Assign [.Subscript o i p2] a pos) (.asgSub mo mi ma) := by
  intro σ H mσ mh ρ R S fl mh' e D P
  simp only [evS] at e
  obtain ⟨x, m1, e1, e⟩ := bind_ok e
  obtain ⟨y, m2, e2, e⟩ := bind_ok e
  obtain ⟨z, m3, e3, e⟩ := bind_ok e
  split at e
  · rename_i m4 e4
    cases e
    obtain ⟨t, ht, hq⟩ := setS (X := X) hu e4
    refine ⟨_, ps_asg pe_tS (hsub ht) hs hw h1, ha σ H mσ mh ρ R S x _ e1 _ fun v H1 ρ1 R1 r1 S1 => ?_⟩
    refine ho σ H1 mσ m1 ρ1 R1 (S.stp R S1) y _ e2 _ fun w H2 ρ2 R2 r2 S2 => ?_
    refine hi σ H2 mσ m2 ρ2 R2 ((S.stp R S1).stp R1 S2) z _ e3 _ fun u H3 ρ3 R3 r3 S3 => ?_
    refine hq ρ3 H3 w u v R3 (r2.stp R2 S3) r3 ((r1.stp R1 S2).stp R2 S3) _ fun H4 R4 S4 => ?_
    exact P σ H4 ρ3 R4 ((((S.stp R S1).stp R1 S2).stp R2 S3).stp R3 S4) (((S1.trans S2).trans S3).trans S4)
  · cases e
/-! ### loops -/
theorem ss_whl (hp : PassesOwn (model X.prog X.w) X.A X.env X.xe) (hc : ST X M a ma) (hb : SSs X M ss mss) : SS X M (.While a ss [] pos) (.whl ma mss) := by
  intro σ H mσ mh ρ R S fl mh' e D P
  simp only [evS] at e
  refine ⟨_, ps_while hp pt_tT pss_tSS, ?_⟩
  refine ⟨fun n σ1 H1 => ∃ mσ1 m1 ρ1, RepH X.K ρ1 m1 H1 ∧ RepS X.K ρ1 H1 mσ1 σ1 ∧ Stp ρ mh H ρ1 m1 H1 ∧ whlGo (fun σ h => evE M ma σ h) (fun σ h => evSs M mss σ h) n mσ1 m1 = .ok fl mh', ⟨M.fuel, mσ, mh, ρ, R, S, .refl, e⟩, ?_⟩
  rintro n σ1 H1 ⟨mσ1, m1, ρ1, R1, S1, T1, e⟩
  cases n with
  | zero => cases e
  | succ n =>
    simp only [whlGo] at e
    obtain ⟨x, m2, e1, e⟩ := bind_ok e
    split at e
    · refine hc σ1 H1 mσ1 m1 ρ1 R1 S1 x m2 e1 true (by assumption) _ fun H2 ρ2 R2 T2 => ?_
      rw [if_pos rfl]
      obtain ⟨f1, m3, e3, e⟩ := bind_ok e
      refine ⟨fun σ' H' => ∃ mσ1 m1 ρ1, RepH X.K ρ1 m1 H' ∧ RepS X.K ρ1 H' mσ1 σ' ∧ Stp ρ mh H ρ1 m1 H' ∧ whlGo (fun σ h => evE M ma σ h) (fun σ h => evSs M mss σ h) n mσ1 m1 = .ok fl mh', fun σ' H' z => ⟨n, by omega, z⟩, ?_⟩
      refine hb σ1 H2 mσ1 m2 ρ2 R2 (S1.stp R1 T2) f1 m3 e3 _ ?_
      cases f1 with
      | nx mσ3 => exact fun σ3 H3 ρ3 R3 S3 T3 => ⟨mσ3, m3, ρ3, R3, S3, (T1.trans T2).trans T3, e⟩
      | cont mσ3 => exact fun σ3 H3 ρ3 R3 S3 T3 => ⟨mσ3, m3, ρ3, R3, S3, (T1.trans T2).trans T3, e⟩
      | brk mσ3 => cases e; exact fun σ3 H3 ρ3 R3 S3 T3 => P σ3 H3 ρ3 R3 S3 ((T1.trans T2).trans T3)
      | ret v => cases e; exact Post.after P (T1.trans T2)
    · cases e
      refine hc σ1 H1 mσ1 m1 ρ1 R1 S1 x _ e1 false (by assumption) _ fun H2 ρ2 R2 T2 => ?_
      rw [if_neg Bool.false_ne_true]
      exact P σ1 H2 ρ2 R2 (S1.stp R1 T2) (T1.trans T2)
    · cases e
theorem ss_for {tg iter : Expr} {mt : MT} {ik : IK} (hp : PassesOwn (model X.prog X.w) X.A X.env X.xe) (hc : X.calm = true) (hs : ∀ x, foldedSetIterable iter X.env x = pure x) (hi : SI X M tg iter ik ma mb) (hg : SG X tg mt) (hb : SSs X M ss mss) :
    SS X M (.For tg iter ss [] pos) (.for_ mt ik ma mb mss) := by
  intro σ H mσ mh ρ R S fl mh' e D P
  simp only [evS] at e
  obtain ⟨x, h1, e1, e⟩ := bind_ok e
  obtain ⟨y, h2, e2, e⟩ := bind_ok e
  split at e
  · rename_i it e3
    split at e
    · rename_i xs e4
      refine ⟨_, ps_for hp hc pi_tIt pg_tGt pss_tSS hs, ?_⟩
      refine hi σ H mσ mh ρ R S x h1 y h2 it e1 e2 e3 _ fun J H1 ρ1 R1 S1 ok1 => ?_
      have RS1 := S.stp R S1
      generalize hst : (fun (v : MV) (σ : MS') (h : MH) => forStep (asgT mt v σ) (fun σ h => evSs M mss σ h) h) = step at e
      refine ⟨fun i n σc Hc => ∃ mσc mc ρc, forGo it step n i mσc mc = .ok fl mh' ∧ RepH X.K ρc mc Hc ∧ RepS X.K ρc Hc mσc σc ∧ Stp ρ1 h2 H1 ρc mc Hc, ⟨xs.length, mσ, h2, ρ1, e, R1, RS1, .refl⟩, ?_⟩
      rintro i n σc Hc ⟨mσc, mc, ρc, ec, Rc, RSc, Tc⟩
      cases n with
      | zero =>
        simp only [forGo] at ec
        split at ec
        · cases ec
          exact .inl ⟨(ok1 ρc _ Hc Rc Tc i).2 (by assumption), P σc Hc ρc Rc RSc (S1.trans Tc)⟩
        · cases ec
      | succ n =>
        simp only [forGo] at ec
        split at ec
        · rename_i v ev
          obtain ⟨f1, m4, e6, ec⟩ := bind_ok ec
          obtain ⟨go, yl⟩ := (ok1 ρc mc Hc Rc Tc i).1 _ _ ev
          refine .inr ⟨go, fun σ' H' => ∃ mσc mc ρc, forGo it step n (i + 1) mσc mc = .ok fl mh' ∧ RepH X.K ρc mc H' ∧ RepS X.K ρc H' mσc σ' ∧ Stp ρ1 h2 H1 ρc mc H', fun σ' H' z => ⟨n, by omega, z⟩, fun xv H' hy => ?_⟩
          obtain ⟨ρy, Ry, Sy, ry⟩ := yl xv H' hy
          rw [← hst] at e6
          simp only [forStep] at e6
          split at e6
          · rename_i mσ2 e7
            refine hg σc H' mσc mσ2 mc ρy xv v Ry (RSc.stp Rc Sy) ry e7 _ fun σ2 RS2 _ => ?_
            refine hb σ2 H' mσ2 mc ρy Ry RS2 f1 m4 e6 _ ?_
            have T2 := Tc.trans Sy
            cases f1 with
            | nx mσ3 => exact fun σ3 H3 ρ3 R3 S3 T3 => ⟨mσ3, m4, ρ3, ec, R3, S3, T2.trans T3⟩
            | cont mσ3 => exact fun σ3 H3 ρ3 R3 S3 T3 => ⟨mσ3, m4, ρ3, ec, R3, S3, T2.trans T3⟩
            | brk mσ3 => cases ec; exact fun σ3 H3 ρ3 R3 S3 T3 => P σ3 H3 ρ3 R3 S3 (S1.trans (T2.trans T3))
            | ret v => cases ec; exact Post.after P (S1.trans T2)
          · cases e6
        · cases ec
    · cases e
  · cases e
end
end Mn

set_option maxHeartbeats 4000000
/-! Fn: a def keeps the promise of its small run; the law's own call. -/
namespace Mn
open PySem PySem.Spec PyProof.Rows L2

section
variable {K : PySem.W.Frag} {ρ ρ' : List Addr} {mh mh' h h0 : MH} {H H' : Hp}
theorem trim_ok {v mv : MV} {w : V} (e : trimM h0 v h = .ok mv mh') (R0 : RepH K ρ h0 H) (R : RepH K ρ' h H') (r : Rep K ρ' H' v w) (S : Stp ρ h0 H ρ' h H') :
    ∃ ρ2, RepH K ρ2 mh' H' ∧ Rep K ρ2 H' mv w ∧ Stp ρ h0 H ρ2 mh' H' := by
  cases e
  exact ⟨ρ', R, r, S⟩
end
theorem EC.nox {X : Cx} {M : Cm} {F B : List Str} {k : Nat} (c : EC X M F B k) : EC X.nox M F B k := ⟨c.calm, c.nd, c.gd, c.room, c.call, c.blt, c.gl⟩
/-- where a def's body runs -/
structure BodyCx (X : Cx) (sc : Scope) (N : List Str) : Prop where
  sc : X.env.scope = sc
  N : X.N = N
  fn : ∀ x, X.fn x = true
  xe : X.xe = fun _ _ => False
theorem fnG_of {P : Program} {w : World} {K : PySem.W.Frag} {mg : Str → Option Value} {base : Heap} {x qual : Str} {st : Stmt} {f : Addr} {fd : FuncData} {N ps : List Str} {k W : Nat} {Γ : Str → Option FD} {gl : Str → Option MV} {d : Nat} {mb : List MS}
    (FF : Fun K x qual st f fd) (S : FnScope N ps (defScope st)) (hΓ : Γ x = some ⟨ps.length, N.length, mb⟩)
    (hbody : ∀ X : Cx, X.prog = P → X.w = w → X.K = K → X.mg = mg → X.base = base → X.calm = true → X.A.guards = some [] → Room k X.A → BodyCx X (defScope st) N → X.env.scope.kind = .function → SSs X ⟨runF Γ gl W d, gl, W⟩ (defBody st) mb) :
    FnG P w K mg base (k + 1) f fd ps (spM K (runF Γ gl W (d + 1)) x ps.length) := by
  obtain ⟨oc, od, kV, doc, pm, an, cdv, ct, osl, rfl, lk, hcd⟩ := FF.ex
  have hlen : ∀ vs H Q E, spM K (runF Γ gl W (d + 1)) x ps.length vs H Q E → vs.length = ps.length := fun vs H Q E h => by
    obtain ⟨ρ, mh, ms, mv, mh', R, r, hl, _⟩ := h
    rw [← r.length, hl]
  refine ⟨hlen, fun A outer s H args us vs Q E hg hr e0 hbt rv hsp => ?_⟩
  have lenV := hlen vs H Q E hsp
  have inK : K.In s.heap := e0.mod.kin.keeps fun b o q => (e0.bs b o q).1
  have kinds : ∀ y ∈ ps.zip us, (defScope st).names.lookup y.1 = some .local ∨ ((defScope st).names.lookup y.1 = some .cell ∧ ((cellsFrom (s.heap.objs.size + 1) (defScope st).names []).lookup y.1).isSome = true) := fun y hy => by
    obtain ⟨n, u⟩ := y
    cases S.par n (List.of_mem_zip hy).1 with
    | inl q => exact Or.inl q
    | inr q => exact Or.inr ⟨q, PySem.W.cellsFrom_some _ _ _ (Or.inl q)⟩
  have hrec := PySem.W.codeRec_of inK hcd
  refine codeAny_call_function hr.depth (inK f _ lk) rfl S.co S.gen rfl hrec ?_
  refine hbt _ _ _ _ ?_
  refine wpAny_newFunctionEnv_cells S.kind kinds ?_
  intro env eenv s1 fresh
  subst eenv
  refine ⟨(e0.mod.nolimit.keeps fun b o q => (e0.bs b o q).1).keeps fresh.toInCall.keep, codeAny_func ?_⟩
  obtain ⟨ρ, mh, ms, mv, mh', R, r, hl, e, Pq⟩ := hsp
  simp only [runF, hΓ, hl, if_true] at e
  have init := inv_start (CX := NoX) (P := P) (w := w) (mg := mg) (base := base) (N := N) (E := E) S hr.hd e0 lenV rv fresh
  cases q : evSs ⟨runF Γ gl W d, gl, W⟩ mb (ms.map some ++ List.replicate (N.length - ps.length) none) mh with
  | bad => rw [q] at e; cases e
  | exc _ _ _ => rw [q] at e; cases e
  | ok fl m1 =>
    rw [q] at e
    have rs : RepS K ρ H (ms.map some ++ List.replicate (N.length - ps.length) none) (L2.start N vs) := by
      refine ⟨?_, fun i m z => ?_⟩
      · unfold L2.start
        rw [List.length_append, List.length_append, List.length_map, List.length_map, List.length_replicate, List.length_replicate, r.length, lenV]
      · by_cases hi : i < ms.length
        · rw [List.getElem?_append_left (by simpa using hi)] at z
          rw [List.getElem?_map] at z
          cases z2 : ms[i]? with
          | none => rw [z2] at z; cases z
          | some m' =>
            rw [z2] at z
            cases z
            obtain ⟨v, g, rr⟩ := r.get z2
            refine ⟨v, ?_, rr⟩
            unfold L2.start
            rw [List.getElem?_append_left (by rw [List.length_map, ← r.length]; exact hi), List.getElem?_map, g]
            rfl
        · rw [List.getElem?_append_right (by simpa using hi)] at z
          have := List.getElem?_eq_some_iff.mp z
          obtain ⟨z1, z2⟩ := this
          simp at z2
    have main := hbody (cxOf NoX P w K mg base N qual (defScope st) f cdv A outer s H E).nox rfl rfl rfl rfl rfl rfl hg (hr.deeper _) ⟨rfl, rfl, fun _ => rfl, rfl⟩ S.kind
      (L2.start N vs) H _ mh ρ R rs fl m1 q { nx := fun _ H' => Q .non H', rt := Q } (by
        cases fl with
        | nx mσ => exact fun σ' H' ρ' R' _ S' => by {
            obtain ⟨ρ2, a1, a2, a3⟩ := trim_ok e R R' .non S'
            exact Pq _ _ _ a1 a2 a3 }
        | ret v => exact fun w' H' ρ' R' r' S' => by {
            obtain ⟨ρ2, a1, a2, a3⟩ := trim_ok e R R' r' S'
            exact Pq _ _ _ a1 a2 a3 }
        | brk _ => cases e
        | cont _ => cases e)
    obtain ⟨t, ht, hq⟩ := main
    refine wpAny_mono (ht.nox.run [] s1 (L2.start N vs) H _ init hq) (fun fl' s' hs => ?_) fun e' s' hs => hs
    cases fl' with
    | ret u => obtain ⟨v, σ', H', J, rv', qv⟩ := hs; exact ⟨v, H', J.os, J.bare, J.base, J.hok, rv', qv⟩
    | next => obtain ⟨σ', H', J, qv⟩ := hs; exact ⟨V.non, H', J.os, J.bare, J.base, J.hok, rfl, qv⟩
    | brk => obtain ⟨_, _, _, qv⟩ := hs; exact (show False from qv).elim
    | cont => obtain ⟨_, _, _, qv⟩ := hs; exact (show False from qv).elim
end Mn

/-! RevT: t[::-1] of tuples and lists. -/
namespace Mn
open PySem PySem.Spec PyProof.Rows L2 HT
section
variable {prog : Program} {w : World} {A : Around} {E : Value → Shared → Prop} {s : Shared}
theorem adjust_back (n : Nat) : Builtin.Slice.sliceAdjust none none (-1) (n : Int) = ((n : Int) - 1, -1) := rfl
theorem places_back (n : Nat) : Builtin.Slice.slicePlaces ((n : Int) - 1) (-1) (-1) = n := by
  unfold Builtin.Slice.slicePlaces
  rw [if_neg (by decide)]
  by_cases h : (n : Int) - 1 > -1
  · rw [if_pos h, show (-(-1) : Int) = 1 by decide, Int.ediv_one]
    omega
  · rw [if_neg h]
    omega
theorem slice_back {sl : Addr} {vs : Value} {n : Nat} {Q : Int × Int × Nat → Shared → Prop} (hs : s.heap.IsSliceOf sl .none .none vs) (ps : IsPart vs (some (-1)))
    (h : Q ((n : Int) - 1, -1, n) s) : wpAny (model prog w) A (Builtin.Slice.sliceApplied (.ref sl) (pure (n : Int))) Q E s := by
  obtain ⟨os, hos, hcs, hds⟩ := id hs
  unfold Builtin.Slice.sliceApplied Builtin.Slice.sliceFields
  refine wpAny_bind (wpAny_bind (wpAny_field hos hds (x := .none) rfl (wpAny_bind (wpAny_field hos hds (x := .none) rfl (wpAny_bind (wpAny_field hos hds (x := vs) rfl (wpAny_pure ?_)))))))
  refine wpAny_bind (slicePart_ ps ?_)
  show wpAny _ _ (if ((-1 : Int) == 0) = true then _ else _) _ _ s
  rw [if_neg (by decide)]
  refine wpAny_bind (slicePart_none (wpAny_bind (slicePart_none (wpAny_bind (wpAny_pure ?_)))))
  show wpAny _ _ (pure ((n : Int) - 1, (-1 : Int), Builtin.Slice.slicePlaces ((n : Int) - 1) (-1) (-1))) _ _ s
  rw [places_back]
  exact wpAny_pure h
theorem pick_back (xs : Array Value) : ((List.range xs.size).filterMap fun (m : Nat) => xs[(((xs.size : Int) - 1) + (m : Int) * (-1)).toNat]?).toArray = xs.toList.reverse.toArray := by
  have e : (fun (m : Nat) => xs[(((xs.size : Int) - 1) + (m : Int) * (-1)).toNat]?) = fun m => xs[xs.size - 1 - m]? := by
    funext m
    have : (((xs.size : Int) - 1) + (m : Int) * (-1)).toNat = xs.size - 1 - m := by omega
    rw [this]
  rw [e]
  have h2 : (List.range xs.size).filterMap (fun m => xs[xs.size - 1 - m]?) = ((List.range xs.size).map fun k => xs.size - 1 - k).filterMap (xs[·]?) := by
    rw [List.filterMap_map]; rfl
  rw [h2, PySem.W.krv_range, List.filterMap_reverse, PySem.W.krv_all]
theorem item_back {t sl : Addr} {items : Array Value} {vs : Value} {Q : Value → Shared → Prop} (ht : IsTup s.heap t items) (hs : s.heap.IsSliceOf sl .none .none vs) (ps : IsPart vs (some (-1)))
    (h : Q (.ref s.heap.objs.size) { s with heap := s.heap.push { cls := .type "tuple", data := .seq items.toList.reverse.toArray } })
    (hsz : items.size ≤ sizeLine) : wpAny (model prog w) A (getItem (.ref t) (.ref sl)) Q E s := by
  have htake : sizeOk (.seq items.toList.reverse.toArray) := by
    show items.toList.reverse.toArray.size ≤ sizeLine
    rw [List.size_toArray, List.length_reverse, Array.length_toList]
    exact hsz
  obtain ⟨os, hos, hcs, hds⟩ := id hs
  have hTs : s.TypeIs (.ref sl) "slice" := ⟨os, hos, hcs⟩
  unfold getItem
  try with_reducible refine wpAny_holding ?_
  first | refine wpAny_bind (wpAny_pure ?_) | skip
  refine wpAny_bind (wpAny_sequenceKey ht.typeIs (by decide) ?_)
  refine wpAny_bind (wpAny_callSpecial?_slot (name := Str.ofString "__getitem__") ht.typeIs PyProof.Rows.slot_tuple_getitem
    (wpAny_call_entry PyProof.Rows.slot_tuple_getitem ht.typeIs entry_tuple_getitem ?_ (args_tuple_getitem _ _)))
  show wpAny _ _ (Builtin.Tuple.tupleItemsOf (.ref t) >>= _) _ _ s
  refine wpAny_bind (tupleItemsOf_ ht ?_)
  refine wpAny_bind (wpAny_typeOf hTs ?_)
  rw [if_pos (by decide)]
  refine wpAny_bind (slice_back (n := items.size) hs ps ?_)
  have hno : ¬ ((((items.size : Int) - 1) == 0 && (-1 : Int) == 1 && items.size == items.size) = true) := by
    intro q
    rw [Bool.and_eq_true, Bool.and_eq_true] at q
    exact absurd q.1.2 (by decide)
  show wpAny _ _ (if (((items.size : Int) - 1) == 0 && (-1 : Int) == 1 && items.size == items.size) = true then _ else _) _ _ s
  rw [if_neg hno, pick_back]
  first
    | exact wpAny_bind (m := Builtin.Tuple.tupleExact _) (wpAny_newObj_type (wpAny_pure ⟨_, rfl, wpAny_pure h⟩) htake)
    | exact wpAny_bind (m := Builtin.Tuple.tupleExact _) (wpAny_newObj_type (wpAny_bind (wpAny_pure (wpAny_pure ⟨_, rfl, wpAny_pure h⟩))) htake)
    | exact wpAny_bind (wpAny_bind (m := Builtin.Tuple.tupleExact _) (wpAny_newObj_type (wpAny_pure (wpAny_pure ⟨_, rfl, wpAny_pure h⟩)) htake))
    | exact wpAny_bind (wpAny_bind (m := Builtin.Tuple.tupleExact _) (wpAny_newObj_type (wpAny_pure ⟨_, rfl, wpAny_pure h⟩) htake))
end
section
variable {X : Cx} {M : Cm} {a : Expr} {ma : ME} {pos : Pos}
def tBackT (K : PySem.W.Frag) (te : TE) : TE := fun σ H Q => te σ H fun x H1 => ∃ a xs, x = .ref a ∧ SqT K H1 a xs ∧ ∀ p, H1 p = none → Q (.ref p) (upd H1 p (.tup xs.reverse))
theorem pe_backT {e : Expr} {te : TE} {k : Nat} {p1 p2 p3 pos : Pos} (he : PE X e te) : PE X (.Subscript e (.Slice none none (some (.UnaryOp .USub (.Constant (.int 1) k p1) p2)) p3) pos) (tBackT X.K te) := by
  refine ⟨fun pins s σ H Q I h => ?_⟩
  refine Subscript_ (thn (he.run pins s σ H _ I h) fun v s1 ⟨x, H1, I1, r1, q1⟩ => ?_)
  obtain ⟨a, xs, ex, hx, q⟩ := q1
  subst ex
  cases r1
  have hst : PO X (some (.UnaryOp .USub (.Constant (.int 1) k p1) p2)) (tPart (tUn (rU fun i => .int (-i)) (tC (.int 1)))) := po_some (pe_un un_neg pe_int)
  refine wpAny_Slice (thn (po_none.run pins s1 σ H1 (fun o H2 => o = none ∧ H2 = H1) I1 ⟨rfl, rfl⟩) fun vl s2 ⟨l, H2, I2, pl, el, e2⟩ => ?_)
  subst el e2
  refine thn (po_none.run pins s2 σ H2 (fun o H3 => o = none ∧ H3 = H2) I2 ⟨rfl, rfl⟩) fun vu s3 ⟨u, H3, I3, pu, eu, e3⟩ => ?_
  subst eu e3
  refine thn (hst.run pins s3 σ H3 (fun o H4 => o = some (-1) ∧ H4 = H3) I3 ⟨1, rfl, -1, rfl, rfl, rfl⟩) fun vs s4 ⟨o, H4, I4, ps, eo, e4⟩ => ?_
  subst eo e4
  cases pl
  cases pu
  have I5 : Inv X pins σ H4 { s4 with heap := s4.heap.push { cls := .type "slice", data := .fields #[.none, .none, vs] } } := I4.kept (t' := s4.toks) fun b ob q => Heap.get?_push_of_some _ q
  obtain ⟨its, r, ht, hz⟩ := I5.tuple hx
  have hlen := r.length
  show wpAny (model X.prog X.w) X.A (subscriptTail e (.Slice none none (some (.UnaryOp .USub (.Constant (.int 1) k p1) p2)) p3) (.ref a) (.ref s4.heap.objs.size)) (EP X pins σ Q) X.xe { s4 with heap := s4.heap.push { cls := .type "slice", data := .fields #[.none, .none, vs] } }
  refine tail_any (ops := [.ref a, .ref s4.heap.objs.size]) ht.typeIs PyProof.Rows.slot_tuple_getitem.lookup ?_ (by with_unfolding_all rfl)
  refine item_back ht (Heap.IsSliceOf.new _ .none .none vs) ps ?_ (by rw [List.size_toArray]; omega)
  refine ⟨.ref _, _, I5.laid (t' := s4.toks) (o := .tup xs.reverse) (fun b ob q => Heap.get?_push_of_some _ q) (Nat.le_refl _) ?_, rfl, q _ (I5.hok.fresh (Nat.le_refl _))⟩
  exact ⟨by rw [List.length_reverse]; omega, _, r.reverse, IsTup.new _ _⟩
theorem se_rev {k : Nat} {p1 p2 p3 : Pos} (ha : SE X M a ma) : SE X M (.Subscript a (.Slice none none (some (.UnaryOp .USub (.Constant (.int 1) k p1) p2)) p3) pos) (.rev ma) := by
  intro σ H mσ mh ρ R S mv mh' e Q P
  simp only [evE] at e
  obtain ⟨x, h1, e1, e⟩ := bind_ok e
  unfold revM at e
  split at e
  · cases e
    refine ⟨_, pe_backT pe_tS, ?_⟩
    refine ha σ H mσ mh ρ R S _ _ e1 _ fun v H1 ρ1 R1 r1 S1 => ?_
    cases r1 with
    | tup s r => exact ⟨_, _, rfl, s, fun p hn => (P.after S1).newT R1 r.reverse hn⟩
  · split at e
    · cases e
      rename_i a xs hl
      refine ⟨_, pe_revL pe_tS, ?_⟩
      refine ha σ H mσ mh ρ R S _ _ e1 _ fun v H1 ρ1 R1 r1 S1 => ?_
      cases r1 with
      | ref hp =>
        obtain ⟨vs, s, r⟩ := R1.lsts hp hl
        exact ⟨_, _, rfl, s, fun p hn => (P.after S1).newL R1 r.reverse hn⟩
    · cases e
  · cases e
end
end Mn

set_option maxHeartbeats 4000000
/-! Conv: from the program's syntax to the small one, checked. -/
namespace Mn
open PySem PySem.Spec PyProof.Rows L2

structure CP where
  N : List Str
  F : List Str
  B : List Str
  G : List Str
def visb (sc : Scope) (x : Str) : Bool := match sc.names.lookup x with
  | some .local => true
  | some .cell => true
  | some .free => true
  | _ => false
def glbb (sc : Scope) (x : Str) : Bool := match sc.names.lookup x with
  | some .globalImplicit => true
  | _ => false
def dbg (x : Str) : Bool := (x == ("__debug__" : Str)) || (x == ("__classdict__" : Str))
def slot (N : List Str) (x : Str) : Option Nat := match N.findIdx? (· == x) with
  | some i => if N[i]? = some x then some i else none
  | none => none
def noIf : Expr → Bool
  | .IfExp .. => false
  | _ => true
def plainE : Expr → Bool
  | .ListComp .. => false | .SetComp .. => false | .DictComp .. => false | .Starred .. => false | .Slice .. => false | .Set .. => false
  | .Call (.Name f _) [] [] _ => !(f == ("super" : Str))
  | _ => true
def noStar : Expr → Bool
  | .Starred .. => false
  | _ => true
def biOf (x : Str) : Option Bi := [Bi.len, .sum, .sorted, .tuple, .list, .int, .str, .repr, .all, .any, .min, .max, .abs].find? fun b => decide (b.nm = x)
def tyOf (x : Str) : Option Ty := [Ty.int, .bool, .str, .tuple, .list, .dict].find? fun b => decide (b.nm = x)
def meOf (x : Str) : Option Me := [Me.append, .extend, .pop, .insert, .count, .index, .reverse, .get, .items, .join, .split, .remove, .clear].find? fun b => decide (b.nm = x)
theorem biOf_nm {x : Str} {b : Bi} (h : biOf x = some b) : b.nm = x := by have := List.find?_some h; simpa using this
theorem tyOf_nm {x : Str} {b : Ty} (h : tyOf x = some b) : b.nm = x := by have := List.find?_some h; simpa using this
theorem meOf_nm {x : Str} {b : Me} (h : meOf x = some b) : b.nm = x := by have := List.find?_some h; simpa using this
/-- may this name be a target -/
def tgtb (fn : Str → Bool) (sc : Scope) (x : Str) : Bool := match sc.names.lookup x with
  | some .local => true
  | some .cell => fn x
  | _ => false
mutual
def cvT (p : CP) (fn : Str → Bool) (sc : Scope) : Expr → Option MT
  | .Name x _ => if tgtb fn sc x then (slot p.N x).map .nm else none
  | .Tuple ts _ _ => (cvTs p fn sc ts).map .tp
  | _ => none
def cvTs (p : CP) (fn : Str → Bool) (sc : Scope) : List Expr → Option (List MT)
  | [] => some []
  | t :: ts => if noStar t then match cvT p fn sc t, cvTs p fn sc ts with
    | some a, some b => some (a :: b)
    | _, _ => none else none
end
def ownOf (N : List Str) (scope : Scope) : List (Str × Nat) := scope.names.filterMap fun y => if y.2 == .local || y.2 == .cell then (slot N y.1).map fun i => (y.1, i) else none
def optAll : List (Option Expr) → Option (List Expr)
  | [] => some []
  | some e :: r => (optAll r).map (e :: ·)
  | none :: _ => none
theorem optAll_map : ∀ {ks : List (Option Expr)} {es : List Expr}, optAll ks = some es → ks = es.map some
  | [], _, h => by simp only [optAll] at h; cases h; rfl
  | none :: _, _, h => by simp [optAll] at h
  | some e :: r, _, h => by
    simp only [optAll] at h
    cases q : optAll r with
    | none => rw [q] at h; cases h
    | some es => rw [q] at h; cases h; rw [optAll_map q]; rfl
mutual
def cvE (p : CP) (sc : Scope) : Nat → Expr → Option ME
  | 0, _ => none
  | n + 1, e => match e with
    | .Constant (.int i) _ _ => some (.c (.int i))
    | .Constant (.bool b) _ _ => some (.c (.bl b))
    | .Constant .none _ _ => some (.c .non)
    | .Constant (.str x) _ _ => some (.c (.str x))
    | .Name x _ => if dbg x then none else if visb sc x then (slot p.N x).map .var else if glbb sc x && p.G.contains x then some (.glb x) else none
    | .BinOp a op b _ => match cvE p sc n a, cvE p sc n b with
      | some a, some b => some (.bin op a b)
      | _, _ => none
    | .UnaryOp .USub a _ => (cvE p sc n a).map .neg
    | .UnaryOp .Not a _ => if noIf a then (cvE p sc n a).map .not_ else none
    | .Compare a [op] [b] _ => if behindInMarks op b then none else match cvE p sc n a, cvE p sc n b with
      | some a, some b => some (.cmp op a b)
      | _, _ => none
    | .Compare a [o1, o2] [b, c] _ => if lastMarks [o1, o2] [b, c] then none else match cvE p sc n a, cvE p sc n b, cvE p sc n c with
      | some a, some b, some c => some (.chain o1 o2 a b c)
      | _, _, _ => none
    | .BoolOp op [a] _ => if noIf a then cvE p sc n a else none
    | .BoolOp .And (a :: b :: r) pos => if noIf a then match cvE p sc n a, cvE p sc n (.BoolOp .And (b :: r) pos) with
      | some a, some b => some (.and_ a b)
      | _, _ => none else none
    | .BoolOp .Or (a :: b :: r) pos => if noIf a then match cvE p sc n a, cvE p sc n (.BoolOp .Or (b :: r) pos) with
      | some a, some b => some (.or_ a b)
      | _, _ => none else none
    | .IfExp c a b _ => if noIf c then match cvE p sc n c, cvE p sc n a, cvE p sc n b with
      | some c, some a, some b => some (.ife c a b)
      | _, _, _ => none else none
    | .Tuple es _ _ => match cvA p sc n es with
      | some es => if es.length ≤ 1000 then some (.tup es) else none
      | none => none
    | .List es _ => match cvA p sc n es with
      | some es => if es.length ≤ 1000 then some (.lst es) else none
      | none => none
    | .Subscript a (.Slice none none none _) _ => (cvE p sc n a).map .sl
    | .Subscript a (.Slice none none (some (.UnaryOp .USub (.Constant (.int 1) _ _) _)) _) _ => (cvE p sc n a).map .rev
    | .Subscript a (.Slice (some lo) none none _) _ => match cvE p sc n a, cvE p sc n lo with
      | some a, some b => some (.slL a b)
      | _, _ => none
    | .Subscript a (.Slice none (some hi) none _) _ => match cvE p sc n a, cvE p sc n hi with
      | some a, some b => some (.slH a b)
      | _, _ => none
    | .Subscript a (.Slice (some lo) (some hi) none _) _ => match cvE p sc n a, cvE p sc n lo, cvE p sc n hi with
      | some a, some b, some c => some (.slB a b c)
      | _, _, _ => none
    | .Subscript a b _ => if plainE b then match cvE p sc n a, cvE p sc n b with
      | some a, some b => some (.ix a b)
      | _, _ => none else none
    | .Dict ks vs _ => match optAll ks with
      | some ks => if ks.length = vs.length && ks.length ≤ 15 then (cvD p sc n ks vs).map .dsp else none
      | none => none
    | .Call (.Name f _) [] [] _ => if p.F.contains f && glbb sc f && !dbg f then some (.call f []) else none
    | .Call (.Name f _) (a :: es) [] _ =>
      if p.F.contains f && glbb sc f && !dbg f then (cvA p sc n (a :: es)).map (.call f) else
      if f = "isinstance" then match es with
        | [.Name t _] => if p.B.contains "isinstance" && glbb sc "isinstance" && p.B.contains t && glbb sc t && noStar a then match tyOf t, cvE p sc n a with
          | some t, some a => some (.isi a t)
          | _, _ => none else none
        | _ => none
      else match rngOf p sc n f a es with
      | some r => r
      | none => match biOf f with
        | some b => if p.B.contains f && glbb sc f then (cvA p sc n (a :: es)).map (.blt b) else none
        | none => none
    | .Call (.Attribute o m apos) [] [] cpos => if plainE o && (apos.endLine == cpos.line) then match meOf m, cvE p sc n o with
      | some m, some o => some (.meth m o [])
      | _, _ => none else none
    | .Call (.Attribute o m apos) (a :: es) [] cpos => if plainE o && (apos.endLine == cpos.line) && es.length ≤ 4 then match meOf m, cvE p sc n o, cvA p sc n (a :: es) with
      | some m, some o, some as => if m = .get && as.length > 2 then none else some (.meth m o as)
      | _, _, _ => none else none
    | .ListComp elt [⟨tg, iter, ifs, 0⟩] scope _ =>
      if plainI iter && blkC p.N sc scope (ownOf p.N scope) then
      match cvI p sc n tg iter, cvT p (fun x => scope.names.lookup x == some .cell) (relS scope sc) tg, cvC p (relS scope sc) n ifs, cvE p (relS scope sc) n elt with
      | some (ik, a, b), some mt, some ifs, some elt => if mt.slots.all fun i => ((ownOf p.N scope).map (·.2)).contains i then some (.lc elt mt ik a b ifs ((ownOf p.N scope).map (·.2))) else none
      | _, _, _, _ => none else none
    | _ => none
/-- list(range(..)), tuple(range(..)) -/
def rngOf (p : CP) (sc : Scope) : Nat → Str → Expr → List Expr → Option (Option ME)
  | 0, _, _, _ => none
  | n + 1, f, a, es => match es, a with
    | [], .Call (.Name r _) [x] [] _ => if r = "range" && !p.F.contains r && (f = "list" || f = "tuple") then some (if p.B.contains "range" && glbb sc "range" && p.B.contains f && glbb sc f && noStar x then
        (cvE p sc n x).map fun x => if f = "list" then .rngL (.c (.int 0)) x else .rngT (.c (.int 0)) x else none) else none
    | [], .Call (.Name r _) [x, y] [] _ => if r = "range" && !p.F.contains r && (f = "list" || f = "tuple") then some (if p.B.contains "range" && glbb sc "range" && p.B.contains f && glbb sc f && noStar x && noStar y then
        match cvE p sc n x, cvE p sc n y with
        | some x, some y => some (if f = "list" then .rngL x y else .rngT x y)
        | _, _ => none else none) else none
    | _, _ => none
def cvD (p : CP) (sc : Scope) : Nat → List Expr → List Expr → Option (List ME)
  | 0, _, _ => none
  | _ + 1, [], [] => some []
  | n + 1, k :: ks, v :: vs => match cvE p sc n k, cvE p sc n v, cvD p sc n ks vs with
    | some k, some v, some r => some (k :: v :: r)
    | _, _, _ => none
  | _ + 1, _, _ => none
def cvA (p : CP) (sc : Scope) : Nat → List Expr → Option (List ME)
  | 0, _ => none
  | _ + 1, [] => some []
  | n + 1, e :: es => if noStar e then match cvE p sc n e, cvA p sc n es with
    | some a, some b => some (a :: b)
    | _, _ => none else none
def cvC (p : CP) (sc : Scope) : Nat → List Expr → Option (List ME)
  | 0, _ => none
  | _ + 1, [] => some []
  | n + 1, [c] => if noIf c then (cvE p sc n c).map ([·]) else none
  | _ + 1, _ => none
def cvI (p : CP) (sc : Scope) : Nat → Expr → Expr → Option (IK × ME × ME)
  | 0, _, _ => none
  | n + 1, tg, e => match e with
    | .Call (.Name f _) [a] [] _ => if f = "range" && !p.F.contains f then (if p.B.contains "range" && glbb sc "range" && noStar a then (cvE p sc n a).map fun a => (.rng1, a, .c .non) else none)
      else if f = "enumerate" && !p.F.contains f then (match tg with
        | .Tuple _ _ _ => if p.B.contains "enumerate" && glbb sc "enumerate" && noStar a then (cvE p sc n a).map fun a => (.enum, a, .c .non) else none
        | _ => none)
      else (cvE p sc n e).map fun a => (.val, a, .c .non)
    | .Call (.Name f _) [a, b] [] _ => if f = "range" && !p.F.contains f then (if p.B.contains "range" && glbb sc "range" && noStar a && noStar b then match cvE p sc n a, cvE p sc n b with
        | some a, some b => some (.rng2, a, b)
        | _, _ => none else none)
      else (cvE p sc n e).map fun a => (.val, a, .c .non)
    | e => (cvE p sc n e).map fun a => (.val, a, .c .non)
def plainI : Expr → Bool
  | .Set .. => false
  | _ => true
end
/-- where syntax stands -/
structure Stat (X : Cx) (sc : Scope) (fn : Str → Bool) (p : CP) : Prop where
  sc : X.env.scope = sc
  kind : X.env.scope.kind = .function
  N : X.N = p.N
  fn : ∀ x, fn x = true → X.fn x = true
section
variable {X : Cx} {sc : Scope} {fn : Str → Bool} {p : CP} {M : Cm} {k : Nat}
theorem slot_at {N : List Str} {x : Str} {i : Nat} (h : slot N x = some i) : N[i]? = some x := by
  unfold slot at h
  split at h
  · split at h
    · cases h; assumption
    · cases h
  · cases h
theorem Stat.vis (s : Stat X sc fn p) {x : Str} (h : visb sc x = true) : Vis X.env.scope x := by
  rw [s.sc]
  unfold visb at h
  split at h
  · exact .inl (by assumption)
  · exact .inr (.inl (by assumption))
  · exact .inr (.inr (by assumption))
  · cases h
theorem Stat.gl (s : Stat X sc fn p) {x : Str} (h : glbb sc x = true) : Gl X x := by
  show X.env.scope.names.lookup x = _
  rw [s.sc]
  unfold glbb at h
  split at h
  · assumption
  · cases h
theorem dbg_ne {x : Str} (h : dbg x = false) : (x == ("__debug__" : Str)) = false ∧ (x == ("__classdict__" : Str)) = false := by
  unfold dbg at h
  exact Bool.or_eq_false_iff.mp h
theorem star_ok {e : Expr} {es : List Expr} (h : noStar e = true) : starEach (e :: es) X.env = (false, eval e X.env) :: starEach es X.env := by
  cases e <;> first | rfl | (simp [noStar] at h)
theorem asg_ok {e : Expr} {es : List Expr} (h : noStar e = true) : assignEach (e :: es) X.env = (false, assign e X.env) :: assignEach es X.env := by
  cases e <;> first | rfl | (simp [noStar] at h)
theorem cvA_star : ∀ {n : Nat} {es : List Expr} {mes : List ME}, cvA p sc n es = some mes → es.all noStar = true
  | 0, _, _, h => by simp [cvA] at h
  | n + 1, [], _, _ => rfl
  | n + 1, e :: es, _, h => by
    simp only [cvA] at h
    split at h
    · split at h
      · cases h
        simp only [List.all_cons, Bool.and_eq_true]
        exact ⟨by assumption, cvA_star (by assumption)⟩
      · cases h
    · cases h
theorem back_ok {pos : Pos} : ∀ {es : List Expr}, es.all noStar = true → (backTo pos (starEach es X.env)).any (·.1) = false
  | [], _ => rfl
  | e :: es, h => by
    simp only [List.all_cons, Bool.and_eq_true] at h
    rw [star_ok h.1]
    have := back_ok (pos := pos) h.2
    simp only [backTo, List.map_cons, List.any_cons, Bool.false_or] at this ⊢
    exact this
theorem few_ok {pos : Pos} {es : List Expr} (h : es.all noStar = true) (hl : es.length ≤ 20) : ((backTo pos (starEach es X.env)).all (fun x => !x.1) && (backToKw pos (keywordEach [] X.env)).all (fun x => x.1.isSome)
    && decide (es.length + ([] : List Keyword).length + (if ([] : List Keyword).isEmpty then 0 else 1) < 30)) = true := by
  have h1 : (backTo pos (starEach es X.env)).all (fun x => !x.1) = true := by
    have := back_ok (X := X) (pos := pos) h
    rw [List.any_eq_false] at this
    rw [List.all_eq_true]
    intro x hx
    have := this x hx
    simpa using this
  rw [h1]
  simp [backToKw, keywordEach]
  omega
theorem attr_ok {o : Expr} {m : Str} (h : plainE o = true) : attributeBase o m X.env (eval o X.env) = eval o X.env := by
  unfold attributeBase
  split
  · rename_i id _ pos
    have hid : (id != ("super" : Str)) = true := by
      simp only [plainE, Bool.not_eq_true'] at h
      simp [bne, h]
    simp [hid]
  · rfl
theorem plain_ix {b : Expr} (h : plainE b = true) : PlainIx b := by
  intro o i
  cases b <;> first | rfl | (simp [plainE] at h)
theorem folded_ok {e : Expr} (h : plainI e = true) : ∀ x, foldedSetIterable e X.env x = pure x := by
  intro x
  cases e <;> first | rfl | (simp [plainI] at h)
theorem Stat.blk (s : Stat X sc fn p) {st : Shared} {H : Hp} {C : Addr} {cl : List (Str × Addr)} {fp : List Addr} {scope : Scope} {own : List (Str × Nat)} (ok : BlkOk X.N X.env.scope scope own) :
    Stat (X.blk st H scope (compEnvC scope cl C X.env) fp) (relS scope sc) (fun x => scope.names.lookup x == some .cell) p :=
  ⟨by rw [← s.sc]; rfl, ok.kind, s.N, fun x h => h⟩
mutual
theorem cvT_ok (s : Stat X sc fn p) (hc : X.calm = true) (nd : X.N.Nodup) : ∀ {e : Expr} {mt : MT}, cvT p fn sc e = some mt → SG X e mt
  | .Name x pos, mt, h => by
    simp only [cvT] at h
    split at h
    · rename_i ht
      cases q : slot p.N x with
      | none => rw [q] at h; cases h
      | some i =>
        rw [q] at h
        cases h
        have hi : X.N[i]? = some x := by rw [s.N]; exact slot_at q
        unfold tgtb at ht
        split at ht
        · rename_i hl
          have hl' : X.env.scope.names.lookup x = some .local := by rw [s.sc]; exact hl
          exact sg_nm nd hi (.inl hl') (.inr hl')
        · rename_i hl
          have hl' : X.env.scope.names.lookup x = some .cell := by rw [s.sc]; exact hl
          exact sg_nm nd hi (.inr hl') (.inl (s.fn x ht))
        · cases ht
    · cases h
  | .Tuple ts _ _, mt, h => by
    simp only [cvT] at h
    cases q : cvTs p fn sc ts with
    | none => rw [q] at h; cases h
    | some mts => rw [q] at h; cases h; exact sg_tp hc (cvTs_ok s hc nd q)
theorem cvTs_ok (s : Stat X sc fn p) (hc : X.calm = true) (nd : X.N.Nodup) : ∀ {es : List Expr} {mts : List MT}, cvTs p fn sc es = some mts → SGs X es mts
  | [], mts, h => by simp only [cvTs] at h; cases h; exact sgs_nil
  | t :: ts, mts, h => by
    simp only [cvTs] at h
    split at h
    · split at h
      · cases h
        exact sgs_cons (asg_ok (by assumption)) (cvT_ok s hc nd (by assumption)) (cvTs_ok s hc nd (by assumption))
      · cases h
    · cases h
end
/-! ### expressions -/
def Snds (X : Cx) (M : Cm) (e : Expr) (me : ME) : Prop := SE X M e me ∧ (noIf e = true → ST X M e me) ∧ ∀ op es pos, e = .BoolOp op es pos → SW X M e me
theorem snd_plain {e : Expr} {me : ME} (h : SE X M e me) (hb : ∀ op es pos, e ≠ .BoolOp op es pos) (he : noIf e = true → ∀ whole, isTrue e X.env whole = (do let v ← whole; standAt e.pos; holding [v] (truthy v))) : Snds X M e me :=
  ⟨h, fun q => st_plain h (he q), fun op es pos q => absurd q (hb op es pos)⟩
theorem and_b {a b : Bool} (h : (a && b) = true) : a = true ∧ b = true := by simpa using h
mutual
theorem cvE_ok : ∀ (n : Nat) {X : Cx} {sc : Scope} {fn : Str → Bool} (c : EC X M p.F p.B k) (s : Stat X sc fn p) (e : Expr) (me : ME), cvE p sc n e = some me → Snds X M e me
  | 0, _, _, _, _, _, _, _, h => by simp [cvE] at h
  | n + 1, X, sc, fn, c, s, e, me, h => by
    have hu := c.un
    have ih := fun e me h => (cvE_ok n c s e me h).1
    have iT := fun e me h (q : noIf e = true) => (cvE_ok n c s e me h).2.1 q
    unfold cvE at h
    split at h
    · cases h; exact snd_plain (se_c pe_int fun _ _ => .int _) (by intros; nofun) fun _ _ => rfl
    · cases h; exact snd_plain (se_c pe_bl fun _ _ => .bl _) (by intros; nofun) fun _ _ => rfl
    · cases h; exact snd_plain (se_c pe_non fun _ _ => .non) (by intros; nofun) fun _ _ => rfl
    · cases h; exact snd_plain (se_c pe_str fun _ _ => .str _) (by intros; nofun) fun _ _ => rfl
    · -- a name
      rename_i x pos
      split at h
      · cases h
      · rename_i hd
        have hd := dbg_ne (Bool.eq_false_iff.mpr hd)
        split at h
        · cases q : slot p.N x with
          | none => rw [q] at h; cases h
          | some i =>
            rw [q] at h
            cases h
            exact snd_plain (se_var (by rw [s.N]; exact slot_at q) (s.vis (by assumption)) hd.1 hd.2) (by intros; nofun) fun _ _ => rfl
        · split at h
          · cases h
            rename_i hg
            obtain ⟨hg, _⟩ := and_b hg
            refine snd_plain ?_ (by intros; nofun) fun _ _ => rfl
            intro σ H mσ mh ρ R S mv mh' e Q P
            have e0 := e
            simp only [evE] at e
            cases z : M.gl x with
            | none => rw [z] at e; cases e
            | some v =>
              obtain ⟨u, w, h1, h2, h3⟩ := c.gl x v z
              exact se_glb (s.gl hg) h1 h2 hd.1 (fun v' z' ρ H => by rw [z] at z'; cases z'; exact h3 ρ H) σ H mσ mh ρ R S mv mh' e0 Q P
          · cases h
    · split at h
      · cases h; exact snd_plain (se_bin (ih _ _ (by assumption)) (ih _ _ (by assumption))) (by intros; nofun) fun _ _ => rfl
      · cases h
    · rename_i a pos
      cases q : cvE p sc n a with
      | none => rw [q] at h; cases h
      | some ma => rw [q] at h; cases h; exact snd_plain (se_neg (ih _ _ q)) (by intros; nofun) fun _ _ => rfl
    · rename_i a pos
      split at h
      · cases q : cvE p sc n a with
        | none => rw [q] at h; cases h
        | some ma => rw [q] at h; cases h; exact ⟨se_not (ih _ _ q), fun _ => st_not (iT _ _ q (by assumption)), fun _ _ _ q => nomatch q⟩
      · cases h
    · split at h
      · cases h
      · rename_i hb
        split at h
        · cases h
          exact ⟨se_cmp (by omega) (Bool.eq_false_iff.mpr hb) (ih _ _ (by assumption)) (ih _ _ (by assumption)), fun _ => st_cmp (by omega) (Bool.eq_false_iff.mpr hb) (ih _ _ (by assumption)) (ih _ _ (by assumption)), fun _ _ _ q => nomatch q⟩
        · cases h
    · split at h
      · cases h
      · rename_i hb
        split at h
        · cases h
          exact ⟨se_chain (by omega) (Bool.eq_false_iff.mpr hb) (ih _ _ (by assumption)) (ih _ _ (by assumption)) (ih _ _ (by assumption)),
            fun _ => st_chain (by omega) (Bool.eq_false_iff.mpr hb) (ih _ _ (by assumption)) (ih _ _ (by assumption)) (ih _ _ (by assumption)), fun _ _ _ q => nomatch q⟩
        · cases h
    · split at h
      · exact ⟨se_one (ih _ _ h), fun _ => sw_st (sw_one (iT _ _ h (by assumption))), fun _ _ _ _ => sw_one (iT _ _ h (by assumption))⟩
      · cases h
    · split at h
      · split at h
        · cases h
          rename_i a b r pos hni _ _ ma mb h1 h2
          have hb := cvE_ok n c s _ _ h2
          have w := sw_and (iT _ _ h1 hni) (hb.2.2 _ _ _ rfl)
          exact ⟨se_and (ih _ _ h1) hb.1, fun _ => sw_st w, fun _ _ _ _ => w⟩
        · cases h
      · cases h
    · split at h
      · split at h
        · cases h
          rename_i a b r pos hni _ _ ma mb h1 h2
          have hb := cvE_ok n c s _ _ h2
          have w := sw_or (iT _ _ h1 hni) (hb.2.2 _ _ _ rfl)
          exact ⟨se_or (ih _ _ h1) hb.1, fun _ => sw_st w, fun _ _ _ _ => w⟩
        · cases h
      · cases h
    · split at h
      · split at h
        · cases h
          exact ⟨se_ife (iT _ _ (by assumption) (by assumption)) (ih _ _ (by assumption)) (ih _ _ (by assumption)), fun q => by simp [noIf] at q, fun _ _ _ q => nomatch q⟩
        · cases h
      · cases h
    · split at h
      · split at h
        · cases h
          exact snd_plain (se_tup (Nat.le_trans (by assumption) (by decide)) (cvA_ok n c s _ _ (by assumption))) (by intros; nofun) fun _ _ => rfl
        · cases h
      · cases h
    · split at h
      · split at h
        · cases h
          exact snd_plain (se_lst (Nat.le_trans (by assumption) (by decide)) (cvA_ok n c s _ _ (by assumption))) (by intros; nofun) fun _ _ => rfl
        · cases h
      · cases h
    · rename_i a _ _
      cases q : cvE p sc n a with
      | none => rw [q] at h; cases h
      | some ma => rw [q] at h; cases h; exact snd_plain (se_sl (ih _ _ q)) (by intros; nofun) fun _ _ => rfl
    · rename_i a _ _ _ _ _
      cases q : cvE p sc n a with
      | none => rw [q] at h; cases h
      | some ma => rw [q] at h; cases h; exact snd_plain (se_rev (ih _ _ q)) (by intros; nofun) fun _ _ => rfl
    · split at h
      · cases h; exact snd_plain (se_slL (ih _ _ (by assumption)) (ih _ _ (by assumption))) (by intros; nofun) fun _ _ => rfl
      · cases h
    · split at h
      · cases h; exact snd_plain (se_slH (ih _ _ (by assumption)) (ih _ _ (by assumption))) (by intros; nofun) fun _ _ => rfl
      · cases h
    · split at h
      · cases h; exact snd_plain (se_slB (ih _ _ (by assumption)) (ih _ _ (by assumption)) (ih _ _ (by assumption))) (by intros; nofun) fun _ _ => rfl
      · cases h
    · split at h
      · rename_i hp
        split at h
        · cases h
          exact snd_plain (se_ix (by omega) (plain_ix hp) (plain_ix hp) (ih _ _ (by assumption)) (ih _ _ (by assumption))) (by intros; nofun) fun _ _ => rfl
        · cases h
      · cases h
    · split at h
      · rename_i ks0 vs pos _ ks hks
        split at h
        · rename_i hq
          obtain ⟨h1, h2⟩ := and_b hq
          cases q : cvD p sc n ks vs with
          | none => rw [q] at h; cases h
          | some ms =>
            rw [q] at h
            cases h
            rw [optAll_map hks]
            exact snd_plain (se_dsp (cvD_ok n c s _ _ _ q) (by simpa using h2)) (by intros; nofun) fun _ _ => rfl
        · cases h
      · cases h
    · split at h
      · cases h
        rename_i hq
        obtain ⟨hq, h3⟩ := and_b hq
        obtain ⟨h1, h2⟩ := and_b hq
        have hd := dbg_ne (by simpa using h3)
        exact snd_plain (se_call0 c (by simpa using h1) (s.gl h2) hd.1) (by intros; nofun) fun _ _ => rfl
      · cases h
    · -- a call by name
      rename_i f pf a es pos
      split at h
      · rename_i hq
        obtain ⟨hq, h3⟩ := and_b hq
        obtain ⟨h1, h2⟩ := and_b hq
        have hd := dbg_ne (by simpa using h3)
        cases q : cvA p sc n (a :: es) with
        | none => rw [q] at h; cases h
        | some mes =>
          rw [q] at h
          cases h
          have st := cvA_star q
          simp only [List.all_cons, Bool.and_eq_true] at st
          exact snd_plain (se_call c (by simpa using h1) (s.gl h2) hd.1 (star_ok st.1) (back_ok st.2) (cvA_ok n c s _ _ q)) (by intros; nofun) fun _ _ => rfl
      · split at h
        · rename_i hf
          subst hf
          split at h
          · split at h
            · rename_i t pt hq
              obtain ⟨hq, h5⟩ := and_b hq
              obtain ⟨hq, h4⟩ := and_b hq
              obtain ⟨hq, h3⟩ := and_b hq
              obtain ⟨h1, h2⟩ := and_b hq
              split at h
              · cases h
                rename_i ty ma ht hma
                have := tyOf_nm ht
                subst this
                exact snd_plain (se_isi (s.gl h2) (c.blt _ (by simpa using h1)) (s.gl h4) (c.blt _ (by simpa using h3)) (star_ok h5) (ih _ _ hma)) (by intros; nofun) fun _ _ => rfl
              · cases h
            · cases h
          · cases h
        · split at h
          · rename_i r hr
            subst h
            exact rngOf_ok n c s _ _ _ _ hr
          · split at h
            · rename_i b hb
              split at h
              · rename_i hq
                obtain ⟨h1, h2⟩ := and_b hq
                have := biOf_nm hb
                subst this
                cases q : cvA p sc n (a :: es) with
                | none => rw [q] at h; cases h
                | some mes =>
                  rw [q] at h
                  cases h
                  have st := cvA_star q
                  simp only [List.all_cons, Bool.and_eq_true] at st
                  exact snd_plain (se_blt c.calm c.gd (by omega) (s.gl h2) (c.blt _ (by simpa using h1)) (star_ok st.1) (back_ok st.2) (cvA_ok n c s _ _ q)) (by intros; nofun) fun _ _ => rfl
              · cases h
            · cases h
    · split at h
      · rename_i hq
        obtain ⟨h1, h2⟩ := and_b hq
        split at h
        · cases h
          rename_i m mo hm hmo
          have := meOf_nm hm
          subst this
          exact snd_plain (se_meth0 c (attr_ok h1) h2 (ih _ _ hmo)) (by intros; nofun) fun _ _ => rfl
        · cases h
      · cases h
    · -- o.m(a, ..)
      rename_i o m apos a es cpos
      split at h
      · rename_i hq
        obtain ⟨hq, h3⟩ := and_b hq
        obtain ⟨h1, h2⟩ := and_b hq
        split at h
        · rename_i m2 mo mas hm hmo hmas
          split at h
          · cases h
          · rename_i hlen
            cases h
            have := meOf_nm hm
            subst this
            have st := cvA_star hmas
            have st2 := st
            simp only [List.all_cons, Bool.and_eq_true] at st2
            refine snd_plain (se_meth c ⟨attr_ok h1, few_ok st (by simp at h3 ⊢; omega), h2⟩ (ih _ _ hmo) (star_ok st2.1) (back_ok st2.2) (cvA_ok n c s _ _ hmas) fun hg => ?_) (by intros; nofun) fun _ _ => rfl
            subst hg
            cases n with
            | zero => simp [cvA] at hmas
            | succ n =>
              have bk : ∀ {e : Expr} {es : List Expr}, noStar e = true → backTo cpos (starEach (e :: es) X.env) = (false, eval e X.env) :: backTo cpos (starEach es X.env) := fun h => by rw [star_ok h]; rfl
              have ih2 := fun e me h => (cvE_ok n c s e me h).1
              simp only [cvA] at hmas
              split at hmas
              · split at hmas
                · cases hmas
                  rename_i ma mr ha hr
                  cases n with
                  | zero => simp [cvA] at hr
                  | succ n =>
                    cases es with
                    | nil =>
                      simp only [cvA] at hr
                      cases hr
                      exact .inl ⟨ma, rfl, rfl, ih2 _ _ ha, bk st2.1⟩
                    | cons b es =>
                      simp only [cvA] at hr
                      split at hr
                      · split at hr
                        · cases hr
                          rename_i mb mr2 hb hr2
                          have h0 : mr2 = [] := by
                            simp at hlen
                            cases mr2 with
                            | nil => rfl
                            | cons _ _ => simp at hlen
                          subst h0
                          have h00 : es = [] := by
                            cases n with
                            | zero => simp [cvA] at hr2
                            | succ n =>
                              cases es with
                              | nil => rfl
                              | cons _ _ =>
                                simp only [cvA] at hr2
                                split at hr2
                                · split at hr2 <;> cases hr2
                                · cases hr2
                          subst h00
                          exact .inr ⟨b, ma, mb, rfl, rfl, ih2 _ _ ha, (cvE_ok n c s _ _ hb).1, by rw [bk st2.1, bk (by assumption)]; rfl⟩
                        · cases hr
                      · cases hr
                · cases hmas
              · cases hmas
        · cases h
      · cases h
    · -- a comprehension
      split at h
      · rename_i hq
        obtain ⟨h1, h2⟩ := and_b hq
        split at h
        · split at h
          · cases h
            rename_i elt tg iter ifs scope pos _ _ _ _ ik ma mb mt mifs melt hi ht hc he hsl
            have ok : BlkOk X.N X.env.scope scope (ownOf p.N scope) := by
              rw [s.N, s.sc]
              exact blkOk_by h2
            refine snd_plain (se_lc c.calm c.nd ok (cvI_ok n c s _ _ _ _ _ hi) (fun i hi => ?_) (fun _ _ _ _ _ => cvT_ok (s.blk ok) c.calm c.nd ht) (fun st H C cl fp => cvC_ok n (c.blk _ _ _ _ _) (s.blk ok) _ _ hc)
              (fun st H C cl fp => (cvE_ok n (c.blk _ _ _ _ _) (s.blk ok) _ _ he).1) (folded_ok h1)) (by intros; nofun) fun _ _ => rfl
            have := List.all_eq_true.mp hsl i hi
            simpa using this
          · cases h
        · cases h
      · cases h
    · cases h
theorem cvD_ok : ∀ (n : Nat) {X : Cx} {sc : Scope} {fn : Str → Bool} (c : EC X M p.F p.B k) (s : Stat X sc fn p) (ks vs : List Expr) (ms : List ME), cvD p sc n ks vs = some ms → SP2 X M ks vs ms
  | 0, _, _, _, _, _, _, _, _, h => by simp [cvD] at h
  | n + 1, X, sc, fn, c, s, [], [], _, h => by simp only [cvD] at h; cases h; exact .nil
  | n + 1, X, sc, fn, c, s, [], _ :: _, _, h => by simp [cvD] at h
  | n + 1, X, sc, fn, c, s, _ :: _, [], _, h => by simp [cvD] at h
  | n + 1, X, sc, fn, c, s, k :: ks, v :: vs, _, h => by
    simp only [cvD] at h
    split at h
    · cases h
      exact .cons (cvE_ok n c s _ _ (by assumption)).1 (cvE_ok n c s _ _ (by assumption)).1 (cvD_ok n c s _ _ _ (by assumption))
    · cases h
theorem rngOf_ok : ∀ (n : Nat) {X : Cx} {sc : Scope} {fn : Str → Bool} (c : EC X M p.F p.B k) (s : Stat X sc fn p) (f : Str) (a : Expr) (es : List Expr) (me : ME) {pf pos : Pos}, rngOf p sc n f a es = some (some me) → Snds X M (.Call (.Name f pf) (a :: es) [] pos) me
  | 0, _, _, _, _, _, _, _, _, _, _, _, h => by simp [rngOf] at h
  | n + 1, X, sc, fn, c, s, f, a, es, me, pf, pos, h => by
    have ih := fun e me h => (cvE_ok n c s e me h).1
    unfold rngOf at h
    split at h
    · split at h
      · rename_i r pr x p2 hq
        obtain ⟨hq, hf⟩ := and_b hq
        obtain ⟨hr, _⟩ := and_b hq
        have hr : r = "range" := by simpa using hr
        subst hr
        rw [Option.some.injEq] at h
        split at h
        · rename_i hq2
          obtain ⟨hq2, h5⟩ := and_b hq2
          obtain ⟨hq2, h4⟩ := and_b hq2
          obtain ⟨hq2, h3⟩ := and_b hq2
          obtain ⟨h1, h2⟩ := and_b hq2
          cases q : cvE p sc n x with
          | none => rw [q] at h; cases h
          | some mx =>
            rw [q] at h
            obtain ⟨te, g1, g2⟩ := rg1_ok (p2 := p2) (p := pr) (ih _ _ q) (s.gl h2) (c.blt _ (by simpa using h1)) (star_ok h5)
            simp only [Option.map_some, Option.some.injEq] at h
            rw [Bool.or_eq_true] at hf
            by_cases hl : f = "list"
            · subst hl
              rw [if_pos rfl] at h
              subst h
              exact snd_plain (se_rngL c.calm (s.gl h4) (c.blt _ (by simpa using h3)) g1 (star_ok rfl) g2) (by intros; nofun) fun _ _ => rfl
            · rw [if_neg hl] at h
              subst h
              have hf : f = "tuple" := by
                rcases hf with hf | hf
                · exact absurd (by simpa using hf) hl
                · simpa using hf
              subst hf
              exact snd_plain (se_rngT c.calm (s.gl h4) (c.blt _ (by simpa using h3)) g1 (star_ok rfl) g2) (by intros; nofun) fun _ _ => rfl
        · cases h
      · cases h
    · split at h
      · rename_i r pr x y p2 hq
        obtain ⟨hq, hf⟩ := and_b hq
        obtain ⟨hr, _⟩ := and_b hq
        have hr : r = "range" := by simpa using hr
        subst hr
        rw [Option.some.injEq] at h
        split at h
        · rename_i hq2
          obtain ⟨hq2, h6⟩ := and_b hq2
          obtain ⟨hq2, h5⟩ := and_b hq2
          obtain ⟨hq2, h4⟩ := and_b hq2
          obtain ⟨hq2, h3⟩ := and_b hq2
          obtain ⟨h1, h2⟩ := and_b hq2
          split at h
          · rename_i mx my qx qy
            obtain ⟨te, g1, g2⟩ := rg2_ok (p2 := p2) (p := pr) (ih _ _ qx) (ih _ _ qy) (s.gl h2) (c.blt _ (by simpa using h1)) (star_ok h5) (star_ok h6)
            rw [Option.some.injEq] at h
            rw [Bool.or_eq_true] at hf
            by_cases hl : f = "list"
            · subst hl
              rw [if_pos rfl] at h
              subst h
              exact snd_plain (se_rngL c.calm (s.gl h4) (c.blt _ (by simpa using h3)) g1 (star_ok rfl) g2) (by intros; nofun) fun _ _ => rfl
            · rw [if_neg hl] at h
              subst h
              have hf : f = "tuple" := by
                rcases hf with hf | hf
                · exact absurd (by simpa using hf) hl
                · simpa using hf
              subst hf
              exact snd_plain (se_rngT c.calm (s.gl h4) (c.blt _ (by simpa using h3)) g1 (star_ok rfl) g2) (by intros; nofun) fun _ _ => rfl
          · cases h
        · cases h
      · cases h
    · cases h
theorem cvA_ok : ∀ (n : Nat) {X : Cx} {sc : Scope} {fn : Str → Bool} (c : EC X M p.F p.B k) (s : Stat X sc fn p) (es : List Expr) (mes : List ME), cvA p sc n es = some mes → SA X M es mes
  | 0, _, _, _, _, _, _, _, h => by simp [cvA] at h
  | n + 1, X, sc, fn, c, s, [], _, h => by simp only [cvA] at h; cases h; exact sa_nil
  | n + 1, X, sc, fn, c, s, e :: es, _, h => by
    simp only [cvA] at h
    split at h
    · split at h
      · cases h
        exact sa_cons (star_ok (by assumption)) (cvE_ok n c s _ _ (by assumption)).1 (cvA_ok n c s _ _ (by assumption))
      · cases h
    · cases h
theorem cvC_ok : ∀ (n : Nat) {X : Cx} {sc : Scope} {fn : Str → Bool} (c : EC X M p.F p.B k) (s : Stat X sc fn p) (es : List Expr) (mes : List ME), cvC p sc n es = some mes → STs X M es mes
  | 0, _, _, _, _, _, _, _, h => by simp [cvC] at h
  | n + 1, X, sc, fn, c, s, [], _, h => by simp only [cvC] at h; cases h; exact .inl ⟨rfl, rfl⟩
  | n + 1, X, sc, fn, c, s, [e], _, h => by
    simp only [cvC] at h
    split at h
    · cases q : cvE p sc n e with
      | none => rw [q] at h; cases h
      | some me => rw [q] at h; cases h; exact .inr ⟨e, me, rfl, rfl, (cvE_ok n c s _ _ q).2.1 (by assumption)⟩
    · cases h
  | n + 1, _, _, _, _, _, _ :: _ :: _, _, h => by simp [cvC] at h
theorem cvI_ok : ∀ (n : Nat) {X : Cx} {sc : Scope} {fn : Str → Bool} (c : EC X M p.F p.B k) (s : Stat X sc fn p) (tg e : Expr) (ik : IK) (ma mb : ME), cvI p sc n tg e = some (ik, ma, mb) → SI X M tg e ik ma mb
  | 0, _, _, _, _, _, _, _, _, _, _, h => by simp [cvI] at h
  | n + 1, X, sc, fn, c, s, tg, e, ik, ma, mb, h => by
    have ih := fun e me h => (cvE_ok n c s e me h).1
    have fin : ∀ e, (cvE p sc n e).map (fun a => (IK.val, a, ME.c .non)) = some (ik, ma, mb) → SI X M tg e ik ma mb := fun e h => by
      cases q : cvE p sc n e with
      | none => rw [q] at h; cases h
      | some me => rw [q] at h; cases h; exact si_val (ih _ _ q)
    unfold cvI at h
    split at h
    · split at h
      · rename_i f pf a pos hf
        obtain ⟨hf, _⟩ := and_b hf
        have hf : f = "range" := by simpa using hf
        subst hf
        split at h
        · rename_i hq
          obtain ⟨hq, h3⟩ := and_b hq
          obtain ⟨h1, h2⟩ := and_b hq
          cases q : cvE p sc n a with
          | none => rw [q] at h; cases h
          | some me => rw [q] at h; cases h; exact si_rng1 (s.gl h2) (c.blt _ (by simpa using h1)) (star_ok h3) (ih _ _ q)
        · cases h
      · split at h
        · rename_i f pf a pos hn hf
          obtain ⟨hf, _⟩ := and_b hf
          have hf : f = "enumerate" := by simpa using hf
          subst hf
          split at h
          · split at h
            · rename_i hq
              obtain ⟨hq, h3⟩ := and_b hq
              obtain ⟨h1, h2⟩ := and_b hq
              cases q : cvE p sc n a with
              | none => rw [q] at h; cases h
              | some me => rw [q] at h; cases h; exact si_enum (s.gl h2) (c.blt _ (by simpa using h1)) (star_ok h3) (ih _ _ q)
            · cases h
          · cases h
        · exact fin _ h
    · split at h
      · rename_i f pf a b pos hf
        obtain ⟨hf, _⟩ := and_b hf
        have hf : f = "range" := by simpa using hf
        subst hf
        split at h
        · rename_i hq
          obtain ⟨hq, h4⟩ := and_b hq
          obtain ⟨hq, h3⟩ := and_b hq
          obtain ⟨h1, h2⟩ := and_b hq
          split at h
          · cases h
            exact si_rng2 (s.gl h2) (c.blt _ (by simpa using h1)) (star_ok h3) (star_ok h4) (ih _ _ (by assumption)) (ih _ _ (by assumption))
          · cases h
        · cases h
      · exact fin _ h
    · exact fin _ h
end
end
end Mn

set_option maxHeartbeats 4000000
/-! Conv2: statements, defs, the whole program. -/
namespace Mn
open PySem PySem.Spec PyProof.Rows L2

def noComp : Expr → Bool
  | .ListComp .. => false | .SetComp .. => false | .DictComp .. => false
  | _ => true
def isTup : Expr → Bool
  | .Tuple .. => true | .List .. => true
  | _ => false
def swapB (sc : Scope) (y : Str) (py : Pos) (scope : Scope) (lpos : Pos) : Bool :=
  sc.names.lookup y == some .local && py.line == lpos.line && !(scope.names.any fun (n, k) => n == y && (k == .local || k == .cell))
def starB : Expr → Bool
  | .Starred .. => true
  | _ => false
mutual
def cvS (p : CP) (fn : Str → Bool) (sc : Scope) : Nat → Stmt → Option MS
  | 0, _ => none
  | n + 1, st => match st with
    | .Expr (.Constant (.str _) _ _) _ => some .pass
    | .Expr e _ => if noComp e then (cvE p sc n e).map .expr else none
    | .Assign [.Subscript o i _] e _ => if noComp e && plainE i then match cvE p sc n o, cvE p sc n i, cvE p sc n e with
      | some o, some i, some e => some (.asgSub o i e)
      | _, _, _ => none else none
    | .Assign [.Name y py] (.ListComp elt [⟨tg, iter, ifs, 0⟩] scope lpos) pos => match slot p.N y, cvE p sc n (.ListComp elt [⟨tg, iter, ifs, 0⟩] scope lpos) with
      | some j, some e => if tgtb fn sc y then some (.asg (.nm j) e) else none
      | _, _ => none
    | .Assign [.Tuple [.Name x px, .Name y py] k1 p1] (.Tuple [a, b] k2 p2) _ =>
      if sc.names.lookup x == some .local && sc.names.lookup y == some .local && py.line == px.line && !(x == y) && noStar a && noStar b && !([a, b].all (foldedForSure 8)) && !([a, b].all (constantsAlone 8)) then
      match slot p.N x, slot p.N y, cvE p sc n a, cvE p sc n b with
      | some i, some j, some a, some b => if i = j then none else some (.asg (.tp [.nm i, .nm j]) (.tup [a, b]))
      | _, _, _, _ => none else
      if !(sc.names.lookup x == some .local && sc.names.lookup y == some .local) then match cvT p fn sc (.Tuple [.Name x px, .Name y py] k1 p1), cvE p sc n (.Tuple [a, b] k2 p2) with
      | some t, some e => some (.asg t e)
      | _, _ => none else none
    | .Assign [tg] e _ => if noComp e && !(isTup tg && isTup e) then match cvT p fn sc tg, cvE p sc n e with
      | some t, some e => some (.asg t e)
      | _, _ => none else none
    | .Return (some e) _ => (cvE p sc n e).map .ret
    | .Return none _ => some .retN
    | .If c a b _ => if noIf c then match cvE p sc n c, cvSs p fn sc n a, cvSs p fn sc n b with
      | some c, some a, some b => some (.ite c a b)
      | _, _, _ => none else none
    | .For tg iter body [] _ => if plainI iter then match cvI p sc n tg iter, cvT p fn sc tg, cvSs p fn sc n body with
      | some (ik, a, b), some t, some body => some (.for_ t ik a b body)
      | _, _, _ => none else none
    | .While c body [] _ => if noIf c then match cvE p sc n c, cvSs p fn sc n body with
      | some c, some body => some (.whl c body)
      | _, _ => none else none
    | .Pass _ => some .pass
    | .Break _ => some .brk
    | .Continue _ => some .cont
    | _ => none
def cvSs (p : CP) (fn : Str → Bool) (sc : Scope) : Nat → List Stmt → Option (List MS)
  | 0, _ => none
  | _ + 1, [] => some []
  | n + 1, s :: ss => match cvS p fn sc n s, cvSs p fn sc n ss with
    | some a, some b => some (a :: b)
    | _, _ => none
end
section
variable {p : CP} {M : Cm} {k : Nat}
theorem swaps_no {X : Cx} {e : Expr} {t : Option Expr} {l : Nat} (h : noComp e = true) : swapsWith e t l X.env = pure false := by
  cases e <;> first | rfl | (simp [noComp] at h)
theorem sole_no {X : Cx} {e t : Expr} {l : Nat} (h : noComp e = true) : swapsWithSole [t] e l X.env = pure false := by
  have : swapsWithSole [t] e l X.env = swapsWith e (some t) l X.env := by rfl
  rw [this, swaps_no h]
theorem asg_sub {X : Cx} {o i : Expr} {p2 : Pos} (h : plainE i = true) (v : Value) : assign (.Subscript o i p2) X.env v = (do
    let ov ← holding [v] (eval o X.env)
    let iv ← holding [v, ov] (eval i X.env)
    standAt p2
    holding [v, ov, iv] (setItem ov iv v)
    release [v, ov, iv] []) := by
  cases i <;> first | rfl | (simp [plainE] at h)
theorem stores_no {X : Cx} {tg e : Expr} (h : (isTup tg && isTup e) = false) : swappedStores [tg] e X.env = pure none := by
  cases tg <;> first | rfl | (cases e <;> first | rfl | (simp [isTup] at h))
theorem stores_pair {X : Cx} {sc : Scope} {fn : Str → Bool} (s : Stat X sc fn p) {x y : Str} {px py pt pt2 : Pos} {kt k2 : Nat} {a b : Expr} (hx : sc.names.lookup x = some .local) (hy : sc.names.lookup y = some .local) (hl : (py.line == px.line) = true) (hne : (x == y) = false)
    (ha : noStar a = true) (hb : noStar b = true) (h1 : [a, b].all (foldedForSure 8) = false) (h2 : [a, b].all (constantsAlone 8) = false) :
    swappedStores [.Tuple [.Name x px, .Name y py] kt pt] (.Tuple [a, b] k2 pt2) X.env = pure (some [x, y]) := by
  have kx : X.env.kindOf x = some .local := by show X.env.scope.names.lookup x = _; rw [s.sc]; exact hx
  have ky : X.env.kindOf y = some .local := by show X.env.scope.names.lookup y = _; rw [s.sc]; exact hy
  have hbk : X.env.blockKind = .function := by unfold Env.blockKind; rw [s.kind]; rfl
  have hd : [x, y].eraseDups = [x, y] := by
    have : (y == x) = false := by rw [Bool.eq_false_iff] at hne ⊢; intro z; exact hne (by simpa using (by simpa using z : y = x).symm)
    simp [List.eraseDups_cons, this]
  unfold swappedStores
  have e1 : ((some NameKind.local : Option NameKind) == some NameKind.local) = true := rfl
  have e2 : (ScopeKind.function != ScopeKind.function) = false := rfl
  simp only [hbk, h1, h2, List.length_cons, List.length_nil, Expr.pos, List.head?_cons, Option.map_some, Option.getD_some, List.filterMap_cons, List.filterMap_nil, kx, ky, hl, e1, e2, beq_self_eq_true, Bool.and_self, if_true, hd, List.any_cons, List.any_nil]
  split
  · rename_i z
    exact absurd z (by decide)
  · split
    · exact absurd ha (by intro z; cases z)
    · split
      · exact absurd hb (by intro z; cases z)
      · rfl
theorem stores_cell {X : Cx} {sc : Scope} {fn : Str → Bool} (s : Stat X sc fn p) {x y : Str} {px py pt pt2 : Pos} {kt k2 : Nat} {a b : Expr} (h : (sc.names.lookup x == some .local && sc.names.lookup y == some .local) = false) :
    swappedStores [.Tuple [.Name x px, .Name y py] kt pt] (.Tuple [a, b] k2 pt2) X.env = pure none := by
  have kx : X.env.kindOf x = sc.names.lookup x := by show X.env.scope.names.lookup x = _; rw [s.sc]
  have ky : X.env.kindOf y = sc.names.lookup y := by show X.env.scope.names.lookup y = _; rw [s.sc]
  have hbk : X.env.blockKind = .function := by unfold Env.blockKind; rw [s.kind]; rfl
  unfold swappedStores
  simp only [hbk, List.length_cons, List.length_nil, Expr.pos, List.head?_cons, Option.map_some, Option.getD_some, List.filterMap_cons, List.filterMap_nil, kx, ky]
  split
  · rfl
  · split
    · rfl
    · cases hx : sc.names.lookup x == some .local
      · simp only [Bool.false_and, Bool.false_eq_true, if_false]
        cases sc.names.lookup y == some .local && py.line == px.line <;> simp
      · rw [hx, Bool.true_and] at h
        simp only [h, Bool.false_and, Bool.false_eq_true, if_false]
        cases px.line == px.line <;> simp
mutual
theorem cvS_ok : ∀ (n : Nat) {X : Cx} {sc : Scope} {fn : Str → Bool} (c : EC X M p.F p.B k) (s : Stat X sc fn p) (hp : PassesOwn (model X.prog X.w) X.A X.env X.xe) (st : Stmt) (ms : MS), cvS p fn sc n st = some ms → SS X M st ms
  | 0, _, _, _, _, _, _, _, _, h => by simp [cvS] at h
  | n + 1, X, sc, fn, c, s, hp, st, ms, h => by
    have ih := fun e me h => (cvE_ok n c s e me h).1
    have iT := fun e me h (q : noIf e = true) => (cvE_ok n c s e me h).2.1 q
    have hu := c.un
    unfold cvS at h
    split at h
    · cases h; exact ss_doc
    · split at h
      · rename_i e pos _ hn
        cases q : cvE p sc n e with
        | none => rw [q] at h; cases h
        | some me => rw [q] at h; cases h; exact ss_expr (swaps_no hn) (ih _ _ q)
      · cases h
    · split at h
      · rename_i hq
        obtain ⟨h1, h2⟩ := and_b hq
        split at h
        · cases h
          exact ss_asgSub (by omega) (sole_no h1) (stores_no rfl) rfl (fun ht => pg_sub pe_tS pe_tS ht (asg_sub h2)) (ih _ _ (by assumption)) (ih _ _ (by assumption)) (ih _ _ (by assumption))
        · cases h
      · cases h
    · -- name = [..]
      rename_i y py elt tg iter ifs scope lpos pos
      split at h
      · rename_i j me hj he
        split at h
        · cases h
          rename_i ht
          have he0 := he
          have hcv : cvT p fn sc (.Name y py) = some (.nm j) := by simp only [cvT, ht, hj]; rfl
          have hkk : X.env.kindOf y = sc.names.lookup y := by show X.env.scope.names.lookup y = _; rw [s.sc]
          have hsw : swapsWith (.ListComp elt [⟨tg, iter, ifs, 0⟩] scope lpos) (some (.Name y py)) pos.line X.env = pure (swapB sc y py scope lpos) := by
            have hbk : X.env.blockKind = .function := by unfold Env.blockKind; rw [s.kind]; rfl
            unfold swapsWith swapB
            simp only [hbk, hkk, Expr.pos]
            rfl
          cases hB : swapB sc y py scope lpos with
          | false =>
            have z : swapsWithSole [.Name y py] (.ListComp elt [⟨tg, iter, ifs, 0⟩] scope lpos) pos.line X.env = swapsWith (.ListComp elt [⟨tg, iter, ifs, 0⟩] scope lpos) (some (.Name y py)) pos.line X.env := by rfl
            exact ss_asg (by rw [z, hsw, hB]) (stores_no rfl) rfl (ih _ _ he) (cvT_ok s c.calm c.nd hcv)
          | true =>
            have hl : sc.names.lookup y = some .local := by
              unfold swapB at hB
              simp only [Bool.and_eq_true] at hB
              simpa using hB.1.1
            cases n with
            | zero => simp [cvE] at he
            | succ n =>
              simp only [cvE] at he
              split at he
              · rename_i hq
                obtain ⟨h1, h2⟩ := and_b hq
                split at he
                · split at he
                  · cases he
                    rename_i _ _ _ _ ik ma mb mt mifs melt hi ht2 hc he2 hsl
                    have ok : BlkOk X.N X.env.scope scope (ownOf p.N scope) := by
                      rw [s.N, s.sc]
                      exact blkOk_by h2
                    refine ss_asgLc c.calm c.nd (by rw [s.N]; exact slot_at hj) (by rw [s.sc]; exact hl) (by rw [hsw, hB]) ok (cvI_ok n c s _ _ _ _ _ hi) (fun i hi => ?_) (fun _ _ _ _ _ => cvT_ok (s.blk ok) c.calm c.nd ht2)
                      (fun st H C cl fp => cvC_ok n (c.blk _ _ _ _ _) (s.blk ok) _ _ hc) (fun st H C cl fp => (cvE_ok n (c.blk _ _ _ _ _) (s.blk ok) _ _ he2).1) (folded_ok h1)
                    have := List.all_eq_true.mp hsl i hi
                    simpa using this
                  · cases he
                · cases he
              · cases he
        · cases h
      · cases h
    · -- x, y = a, b
      rename_i x px y py _ _ a b _ _ _
      split at h
      · rename_i hq
        obtain ⟨hq, h8⟩ := and_b hq
        obtain ⟨hq, h7⟩ := and_b hq
        obtain ⟨hq, h6⟩ := and_b hq
        obtain ⟨hq, h5⟩ := and_b hq
        obtain ⟨hq, h4⟩ := and_b hq
        obtain ⟨hq, h3⟩ := and_b hq
        obtain ⟨h1, h2⟩ := and_b hq
        have h1 : sc.names.lookup x = some .local := by simpa using h1
        have h2 : sc.names.lookup y = some .local := by simpa using h2
        split at h
        · split at h
          · cases h
          · rename_i i j ma mb hi hj ha hb hij
            cases h
            intro σ H mσ mh ρ R S fl mh' e D P
            simp only [evS, evE] at e
            obtain ⟨vt, m1, e1, e⟩ := bind_ok e
            obtain ⟨vs, m2, e2, e1⟩ := bind_ok e1
            cases e1
            obtain ⟨e3, rfl⟩ := ofO_ok e
            refine ⟨_, ps_par c.calm c.nd (by rw [s.N]; exact slot_at hi) (by rw [s.N]; exact slot_at hj) hij (by rw [s.sc]; exact h1) (by rw [s.sc]; exact h2) pa_tA
              (stores_pair s h1 h2 h3 (by simpa using h4) h5 h6 (Bool.not_eq_true' _ |>.mp h7) (Bool.not_eq_true' _ |>.mp h8)) rfl, ?_⟩
            refine sa_cons (star_ok h5) (ih _ _ ha) (sa_cons (star_ok h6) (ih _ _ hb) sa_nil) σ H mσ mh ρ R S vs _ e2 _ fun ws H1 ρ1 R1 r1 S1 => ?_
            cases vs with
            | nil => simp [evEs_len e2, asgT, asgTs] at e3
            | cons v1 vs =>
              cases vs with
              | nil => simp [asgT] at e3
              | cons v2 vs =>
                cases vs with
                | cons _ _ => simp [asgT] at e3
                | nil =>
                  simp [asgT, asgTs] at e3
                  subst e3
                  obtain ⟨w1, w2, rfl, r1', r2'⟩ := r1.two'
                  exact ⟨w1, w2, rfl, P _ H1 ρ1 R1 (((S.stp R S1).set r1' i).set r2' j) S1⟩
        · cases h
      · split at h
        · rename_i hq
          split at h
          · cases h
            rename_i t me ht he
            exact ss_asg (sole_no rfl) (stores_cell s (Bool.not_eq_true' _ |>.mp hq)) rfl (ih _ _ he) (cvT_ok s c.calm c.nd ht)
          · cases h
        · cases h
    · split at h
      · rename_i hq
        obtain ⟨h1, h2⟩ := and_b hq
        split at h
        · cases h
          rename_i tg e pos _ _ _ _ _ t me ht he
          have hns : noStar tg = true := by cases tg <;> first | rfl | (simp [cvT] at ht)
          exact ss_asg (sole_no h1) (stores_no (Bool.not_eq_true' _ |>.mp h2)) (by rw [asg_ok hns]; rfl) (ih _ _ he) (cvT_ok s c.calm c.nd ht)
        · cases h
      · cases h
    · rename_i e pos
      cases q : cvE p sc n e with
      | none => rw [q] at h; cases h
      | some me => rw [q] at h; cases h; exact ss_ret (ih _ _ q)
    · cases h; exact ss_retN
    · split at h
      · split at h
        · cases h
          exact ss_ite (iT _ _ (by assumption) (by assumption)) (cvSs_ok n c s hp _ _ (by assumption)) (cvSs_ok n c s hp _ _ (by assumption))
        · cases h
      · cases h
    · split at h
      · split at h
        · cases h
          exact ss_for hp c.calm (folded_ok (by assumption)) (cvI_ok n c s _ _ _ _ _ (by assumption)) (cvT_ok s c.calm c.nd (by assumption)) (cvSs_ok n c s hp _ _ (by assumption))
        · cases h
      · cases h
    · split at h
      · split at h
        · cases h
          exact ss_whl hp (iT _ _ (by assumption) (by assumption)) (cvSs_ok n c s hp _ _ (by assumption))
        · cases h
      · cases h
    · cases h; exact ss_pass
    · cases h; exact ss_brk
    · cases h; exact ss_cont
    · cases h
theorem cvSs_ok : ∀ (n : Nat) {X : Cx} {sc : Scope} {fn : Str → Bool} (c : EC X M p.F p.B k) (s : Stat X sc fn p) (hp : PassesOwn (model X.prog X.w) X.A X.env X.xe) (ss : List Stmt) (mss : List MS), cvSs p fn sc n ss = some mss → SSs X M ss mss
  | 0, _, _, _, _, _, _, _, _, h => by simp [cvSs] at h
  | n + 1, X, sc, fn, c, s, hp, [], _, h => by simp only [cvSs] at h; cases h; exact sss_nil
  | n + 1, X, sc, fn, c, s, hp, st :: ss, _, h => by
    simp only [cvSs] at h
    split at h
    · cases h
      exact sss_cons (cvS_ok n c s hp _ _ (by assumption)) (cvSs_ok n c s hp _ _ (by assumption))
    · cases h
end
end
end Mn

set_option maxHeartbeats 4000000
/-! Top: all defs of a program keep the promises of their small runs; the law's own call. -/
namespace Mn
open PySem PySem.Spec PyProof.Rows L2

/-- a def of the text: its name, its names by slot, its parameters, its small body -/
structure En where
  x : Str
  st : Stmt
  N : List Str
  ps : List Str
  mb : List MS
def tabGm (T : List En) (x : Str) : Option FD := (T.find? fun e => decide (e.x = x)).map fun e => ⟨e.ps.length, e.N.length, e.mb⟩
def names (T : List En) : List Str := T.map (·.x)
structure EnOk (B G F : List Str) (e : En) : Prop where
  S : FnScope e.N e.ps (defScope e.st)
  cv : cvSs ⟨e.N, F, B, G⟩ (fun _ => true) (defScope e.st) 200 (defBody e.st) = some e.mb
structure EnAt (K : PySem.W.Frag) (mg : Str → Option Value) (e : En) (f : Addr) (fd : FuncData) : Prop where
  F : Fun K e.x e.x e.st f fd
  g : mg e.x = some (.ref f)
  b : Binds K fd e.ps []
theorem runF_len {Γ : Str → Option FD} {gl : Str → Option MV} {W d : Nat} {f : Str} {vs : List MV} {mh : MH} {mv : MV} {mh' : MH} {fd : FD} (h : Γ f = some fd) (e : runF Γ gl W d f vs mh = .ok mv mh') : vs.length = fd.np := by
  cases d with
  | zero => cases e
  | succ d =>
    simp only [runF, h] at e
    split at e
    · assumption
    · cases e
theorem tabGm_mem {T : List En} (nd : (names T).Nodup) {e : En} (h : e ∈ T) : tabGm T e.x = some ⟨e.ps.length, e.N.length, e.mb⟩ := by
  unfold tabGm
  have : T.find? (fun e' => decide (e'.x = e.x)) = some e := by
    induction T with
    | nil => cases h
    | cons a T ih =>
      simp only [names, List.map_cons, List.nodup_cons] at nd
      by_cases ha : a.x = e.x
      · rcases List.mem_cons.mp h with rfl | h'
        · simp
        · exfalso
          apply nd.1
          rw [ha]
          exact List.mem_map.mpr ⟨e, h', rfl⟩
      · rw [List.find?_cons_of_neg (by simpa using ha)]
        rcases List.mem_cons.mp h with rfl | h'
        · exact absurd rfl ha
        · exact ih nd.2 h'
  rw [this]
  rfl
section
variable {P : Program} {w : World} {K : PySem.W.Frag} {mg : Str → Option Value} {base : Heap} {T : List En} {B G : List Str} {gl : Str → Option MV} {W : Nat}
theorem program_ok (nd : (names T).Nodup) (hT : ∀ e ∈ T, EnOk B G (names T) e) (hA : ∀ e ∈ T, ∃ f fd, EnAt K mg e f fd) (hB : ∀ x ∈ B, mg x = none)
    (hG : ∀ x v, gl x = some v → ∃ u w', mg x = some u ∧ RelV w' u ∧ ∀ ρ H, Rep K ρ H v w') :
    ∀ d, ∀ e ∈ T, ∀ f fd, EnAt K mg e f fd → FnG P w K mg base d f fd e.ps (spM K (runF (tabGm T) gl W d) e.x e.ps.length) := by
  intro d
  induction d with
  | zero => exact fun e he f fd A => ⟨fun vs H Q E h => (by obtain ⟨_, _, _, _, _, _, _, _, h, _⟩ := h; cases h), fun A outer s H args us vs Q E _ _ _ _ _ h => (by obtain ⟨_, _, _, _, _, _, _, _, h, _⟩ := h; cases h)⟩
  | succ d ih =>
    intro e he f fd A
    have ok := hT e he
    refine fnG_of A.F ok.S (tabGm_mem nd he) fun X hp hw hK hm hb hc hg hr hbc hk => ?_
    subst hp hw hK hm hb
    have ec : EC X ⟨runF (tabGm T) gl W d, gl, W⟩ (names T) B d := by
      refine ⟨hc, by rw [hbc.N]; exact ok.S.nd, hg, hr, fun x hx => ?_, hB, hG⟩
      obtain ⟨e', he', rfl⟩ := List.mem_map.mp hx
      obtain ⟨f', fd', A'⟩ := hA e' he'
      exact ⟨f', fd', e'.ps, A'.g, A'.F.kp, A'.b, ih e' he' f' fd' A', fun vs mh mv mh' h => runF_len (tabGm_mem nd he') h⟩
    exact cvSs_ok 200 (p := ⟨e.N, names T, B, G⟩) ec ⟨hbc.sc, hk, hbc.N, fun x _ => hbc.fn x⟩ (by rw [hbc.xe]; exact .never) _ _ ok.cv
end
/-- a small value of the module's constants -/
theorem gl_int {K : PySem.W.Frag} {mg : Str → Option Value} {x : Str} {i : Int} {t : Tok} (h : mg x = some (.int i t)) : ∃ u w', mg x = some u ∧ RelV w' u ∧ ∀ ρ H, Rep K ρ H (.int i) w' := ⟨_, .int i, h, ⟨t, rfl⟩, fun _ _ => .int i⟩
/-- the law's call, from the small run -/
theorem call_mini {P : Program} {w : World} {K : PySem.W.Frag} {mg mb : Str → Option Value} {k : Nat} {fa a : Addr} {fd : FuncData} {x : Str} {call : Str → List MV → MH → R MV} {nm : Str} {s₁ : Shared} {vs : List Value} {ns : List Int}
    (KX : K.In s₁.heap) (hns : s₁.heap.Ns mainGlobals mg) (hb : s₁.heap.Ns builtinsNs mb) (hbb : ∀ x : Str, x ≠ "__name__" → mb x = bootBuiltins x) (hlim : s₁.heap.NoLimit) (hg : s₁.gens = #[])
    (ha : s₁.heap.get? a = some { cls := .type "list", data := .seq vs.toArray }) (hi : IntsAre vs ns) (hl : ns.length ≤ sizeLine) (hr : Room k callerA)
    (F : ∀ base : Heap, K.In base → base.Ns mainGlobals mg → FnG P w K mg base k fa fd [x] (spM K call nm 1)) (hbind : ∀ (s : Shared) (u : Value), BindsTo s fd ⟨[u], []⟩ [(x, u)])
    (run : ∃ mh', call nm [.ref 0] [.fro (ns.map .int)] = .ok (.bl true) mh') :
    codeAny (model P w) callerA (.call (.ref fa) ⟨[.ref a], []⟩) (fun r s' => r = .ok (.ret (.bool true)) ∧ OldK s₁.heap s'.heap ∧ s'.os = s₁.os ∧ AllBare s'.gens) s₁ := by
  have rv := vals_ints hi
  have lenV := hi.length
  have go : ∀ H : Hp, FzL K H a (ns.map V.int) → (∀ b, H b = none ∨ b = a) → (∀ u, H a = some u → K.lookup a = none ∧ u = .frz { cls := .type "list", data := .seq vs.toArray } (.lst (ns.map V.int))) →
      codeAny (model P w) callerA (.call (.ref fa) ⟨[.ref a], []⟩) (fun r s' => r = .ok (.ret (.bool true)) ∧ OldK s₁.heap s'.heap ∧ s'.os = s₁.os ∧ AllBare s'.gens) s₁ := by
    intro H hS hA hF
    have noneOf : ∀ {b : Addr} {o : Obj}, s₁.heap.get? b = some o → o ≠ { cls := .type "list", data := .seq vs.toArray } → H b = none := fun {b o} e ne => by
      rcases hA b with z | rfl
      · exact z
      · rw [ha] at e
        exact absurd (Option.some.inj e).symm ne
    have ok : HOk P w H s₁.heap := fun b u e => by
      rcases hA b with z | rfl
      · rw [z] at e; cases e
      · obtain ⟨_, rfl⟩ := hF u e
        exact ⟨ha, by rw [List.length_map]; exact hl, vs, _, rv, ha⟩
    have onB : ∀ {b : Addr} {m : Str → Option Value}, s₁.heap.Ns b m → (hidT s₁.heap H).Ns b m := fun {b m} n => by
      obtain ⟨o, es, ep, e, d, r⟩ := n
      exact ⟨o, es, ep, hidT_get e (noneOf e fun z => by rw [z] at d; cases d), d, r⟩
    have inB : K.In (hidT s₁.heap H) := fun b o e => hidT_get (KX b o e) (by
      rcases hA b with z | rfl
      · exact z
      · cases q : H b with
        | none => rfl
        | some u => rw [(hF u q).1] at e; cases e)
    have modB : Mod K mg (hidT s₁.heap H) := ⟨inB, onB hns, ⟨mb, onB hb, hbb⟩, by
      obtain ⟨mc, h1, h2⟩ := hlim
      exact ⟨mc, onB h1, h2⟩⟩
    have env0 : Env0 P w K mg (hidT s₁.heap H) callerA [] s₁ H :=
      { frames := rfl, mod := modB, bs := fun b o e => of_hidT e, bsz := Nat.le_of_eq (hidT_size _ _), funs := trivial, frf := fun b hb => (nomatch hb), hok := ok, bare := .of_eq hg }
    have R0 : RepH K [a] [.fro (ns.map .int)] H := by
      refine ⟨rfl, fun i j p oa ob e1 e2 e3 e4 m1 m2 => ?_, fun i p o e1 e2 => ?_⟩
      · cases i with
        | zero => simp at e3; subst e3; cases m1
        | succ i => simp at e3
      · cases i with
        | zero =>
          simp at e1 e2
          subst e1 e2
          exact ⟨_, hS, .ofInts ns⟩
        | succ i => simp at e2
    obtain ⟨mh', run⟩ := run
    have prom : spM K call nm 1 [.ref a] H (fun v _ => v = .bl true) (fun _ _ _ => False) :=
      ⟨[a], _, [.ref 0], _, mh', R0, .cons (.ref rfl) .nil, rfl, run, fun v H' ρ' _ r _ => by cases r; rfl⟩
    refine codeAny_mono ((F _ inB (onB hns)).run callerA [] s₁ H ⟨[.ref a], []⟩ [.ref a] [.ref a] _ _ rfl hr env0 (hbind s₁ (.ref a)) (.cons rfl .nil) prom) fun r s' h => ?_
    cases r with
    | error e => exact (show False from h).elim
    | ok fl =>
      cases fl with
      | ret u =>
        obtain ⟨v, H', os, bare, un, ok', rel, q⟩ := h
        have q' : v = .bl true := q
        subst q'
        have hu : u = Value.bool true := rel
        subst hu
        refine ⟨rfl, OldK.of_keep fun b o e => ?_, os, bare⟩
        cases q : H b with
        | none => exact un.keep b o e q (by intro z; cases z) (by intro z; cases z)
        | some u =>
          rcases hA b with z | rfl
          · rw [q] at z; cases z
          · obtain ⟨_, rfl⟩ := hF u q
            obtain ⟨e2, _⟩ := ok' b _ (un.frzs b _ _ q)
            rw [ha] at e
            cases e
            exact e2
      | _ => exact False.elim h
  cases hk : K.lookup a with
  | some o =>
    have e := KX a o hk
    rw [ha] at e
    cases e
    exact go (fun _ => none) (.inr (.inr ⟨_, vs.toArray, _, hk, rfl, rfl, rfl, by rw [List.size_toArray, lenV]; exact hl, by simpa using rv⟩)) (fun _ => .inl rfl) (fun u z => by cases z)
  | none =>
    refine go (fun b => if b = a then some (.frz { cls := .type "list", data := .seq vs.toArray } (.lst (ns.map V.int))) else none) (.inl ⟨_, if_pos rfl⟩) (fun b => ?_) (fun u z => ⟨hk, ?_⟩)
    · by_cases hb : b = a
      · exact .inr hb
      · exact .inl (if_neg hb)
    · have z' := (if_pos rfl).symm.trans z
      exact (Option.some.inj z').symm
/-- the goal that k_head leaves -/
theorem walk_mini {l : PySem.W.OpenLaw} {n k : Nat} {q : Program} {loose : List Str} {XP : (Str → Option Value) → Heap → Prop} {YP : World → Heap → Prop} {d : DefRec} {K : Params → PySem.W.Frag} {x : Str} {call : Str → List MV → MH → R MV}
    (hn : l.most = some n) (hn2 : n ≤ sizeLine) (hdf : d.params.defaults = []) (hr : Room k callerA) (hY : ∀ (w : World) (h : Heap), YP w h → (K w.params).In h)
    (run : ∀ ns : List Int, ns.length ≤ n → ∃ mh', call d.name [.ref 0] [.fro (ns.map .int)] = .ok (.bl true) mh')
    (F : ∀ (w : World) (mg : Str → Option Value) (fa : Addr) (h : Heap), (K w.params).In h → h.Ns mainGlobals mg → mg d.name = some (.ref fa) →
      ∃ fd : FuncData, (∀ (s : Shared) (u : Value), BindsTo s fd ⟨[u], []⟩ [(x, u)]) ∧
        ∀ base : Heap, (K w.params).In base → base.Ns mainGlobals mg → FnG l.prog w (K w.params) mg base k fa fd [x] (spM (K w.params) call d.name 1)) :
    PySem.W.WalkO q loose XP YP l.row.toRowW d [] (fun f vs => PySem.call f vs) := by
  refine Att.attach_call hn hdf fun w s₀ s₁ mg mb fa o pm cd doc a vs ns G Y ho hd hcd hmg hobj hints hlen hg => ?_
  have KX := hY w _ Y
  obtain ⟨fd, hb, hF⟩ := F w mg fa _ KX G.T.g hmg
  exact call_mini KX G.T.g G.T.b G.T.builtins G.T.nolimit hg hobj hints (Nat.le_trans hlen hn2) hr hF hb (run ns hlen)
end Mn

/-! Pv: values without places: what a variable holds is a tree. The evaluator over them. -/
namespace Mn
open PySem L2

inductive PV where
  | non | bl (b : Bool) | int (i : Int) | str (s : Str) | tup (xs : List PV) | lst (xs : List PV) | fro (xs : List PV) | dct (kvs : List (Key × PV)) | lck
  deriving Inhabited
/-- what an expression comes to: a value that nothing changes; a list or dict that nobody else holds; a variable's own -/
inductive Opd where
  | val (v : PV) | own (v : PV) | bor (i : Nat)
abbrev PS := List (Option PV)
inductive Q (α : Type) where
  | ok (a : α) (σ : PS) | exc (c : Str) (fs : List PV) (σ : PS) | bad
def Q.bind {α β : Type} : Q α → (α → PS → Q β) → Q β
  | .ok a σ, f => f a σ
  | .exc c fs σ, _ => .exc c fs σ
  | .bad, _ => .bad
inductive CR where
  | ok (o : Opd) (ios : List PV) | exc (c : Str) (fs : List PV) (ios : List PV) | bad
inductive Cls where
  | sh | ow | io | br | bf
  deriving DecidableEq
inductive PK where
  | pl | io | br
  deriving DecidableEq

mutual
def emb : MV → PV
  | .non => .non
  | .bl b => .bl b
  | .int i => .int i
  | .str s => .str s
  | .tup xs => .tup (embs xs)
  | .ref _ => .non
def embs : List MV → List PV
  | [] => []
  | x :: xs => emb x :: embs xs
end
mutual
/-- the tree of a value, lists within lists up to a depth -/
def dP : PV → Nat → Option PyData
  | .non, _ => some .none
  | .bl b, _ => some (.bool b)
  | .int i, _ => some (.int i)
  | .str s, _ => some (.str s)
  | .tup xs, n => (dPs xs n).map .tuple
  | .lst xs, n => match n with
    | 0 => none
    | n + 1 => (dPs xs n).map .list
  | .fro xs, n => match n with
    | 0 => none
    | n + 1 => (dPs xs n).map .list
  | .dct _, _ => none
  | .lck, _ => none
def dPs : List PV → Nat → Option (List PyData)
  | [], _ => some []
  | x :: xs, n => match dP x n, dPs xs n with
    | some d, some ds => some (d :: ds)
    | _, _ => none
end
/-- a list or a dict -/
def isLD : PV → Bool
  | .lst _ => true
  | .fro _ => true
  | .dct _ => true
  | .lck => true
  | _ => false
def isLk : PV → Bool
  | .lck => true
  | _ => false
def lstsP : PV → Option (List PV)
  | .lst xs => some xs
  | .fro xs => some xs
  | _ => none
def seqsP : PV → Option (List PV)
  | .tup xs => some xs
  | v => lstsP v
def truthP : PV → Option Bool
  | .non => some false
  | .bl b => some b
  | .int i => some (i != 0)
  | .str s => if s.length ≤ lineM then some (s.length != 0) else none
  | .tup xs => some (!xs.isEmpty)
  | .lst xs => some (!xs.isEmpty)
  | .fro xs => some (!xs.isEmpty)
  | .dct kvs => some (!kvs.isEmpty)
  | .lck => none
def allIntsP : List PV → Option (List Int)
  | [] => some []
  | .int i :: xs => (allIntsP xs).map (i :: ·)
  | _ :: _ => none
def allBlsP : List PV → Option (List Bool)
  | [] => some []
  | .bl i :: xs => (allBlsP xs).map (i :: ·)
  | _ :: _ => none
def flatP : PV → Bool
  | .non => true
  | .bl _ => true
  | .int _ => true
  | .str _ => true
  | _ => false
def eqFP (x y : PV) : Bool := match dP x 0, dP y 0 with
  | some d, some e => PyData.eqv d e
  | _, _ => false
def keyOfP : PV → Option Key
  | .int i => some (.inl i)
  | .str s => some (.inr s)
  | _ => none
def getKP (k : Key) (kvs : List (Key × PV)) : Option PV := (kvs.find? fun kv => decide (kv.1 = k)).map (·.2)
def putKP (k : Key) (v : PV) (kvs : List (Key × PV)) : List (Key × PV) :=
  if (kvs.any fun kv => decide (kv.1 = k)) = true then kvs.map (fun kv => if kv.1 = k then (kv.1, v) else kv) else kvs ++ [(k, v)]
section
local instance (priority := 10000) clP4 (p : Prop) : Decidable p := Classical.propDecidable p
def binP (op : Operator) (x y : PV) : Option Opd :=
  match op, x, y with
  | .Add, .int i, .int j => some (.val (.int (i + j)))
  | .Add, .str a, .str b => if a.length + b.length ≤ lineM then some (.val (.str (a ++ b))) else none
  | .Add, .tup a, .tup b => if a.length + b.length ≤ lineM then some (.val (.tup (a ++ b))) else none
  | .Add, .lst a, .lst b => if a.length + b.length ≤ lineM then some (.own (.lst (a ++ b))) else none
  | .Sub, .int i, .int j => some (.val (.int (i - j)))
  | .Mult, .int i, .int j => if i.natAbs < 2 ^ 64 ∨ j.natAbs < 2 ^ 64 then some (.val (.int (i * j))) else none
  | .Mult, .lst xs, .int k => if -(2 ^ 63) ≤ k ∧ k < 2 ^ 63 ∧ xs.length * k.toNat ≤ lineM then some (.own (.lst (List.replicate k.toNat xs).flatten)) else none
  | .Mult, .tup xs, .int k => if 2 ≤ k ∧ k ≤ 1000 ∧ xs.length ≤ 1000 ∧ xs ≠ [] then some (.val (.tup (List.replicate k.toNat xs).flatten)) else none
  | .FloorDiv, .int i, .int j => if 0 < j ∧ j < 1073741824 then some (.val (.int (i / j))) else none
  | .Mod, .int i, .int j => if 0 < j then some (.val (.int (i % j))) else none
  | .Pow, .int i, .int j => if 0 ≤ j ∧ j ≤ 1000000 ∧ i.natAbs < 2 ^ 64 then some (.val (.int (i ^ j.toNat))) else none
  | .LShift, .int i, .int j => if 0 ≤ j ∧ j ≤ 1000000 ∧ i.natAbs < 2 ^ 64 then some (.val (.int (i * 2 ^ j.toNat))) else none
  | .RShift, .int i, .int j => if 0 ≤ j then some (.val (.int (i / 2 ^ j.toNat))) else none
  | .BitAnd, .int i, .int j => some (.val (.int (Builtin.bitAnd i j)))
  | .BitOr, .int i, .int j => some (.val (.int (Builtin.bitOr i j)))
  | .BitXor, .int i, .int j => some (.val (.int (Builtin.bitXor i j)))
  | _, _, _ => none
end
def eqDP (x y : PV) : Option Bool := match dP x 6, dP y 6 with
  | some d, some e => if shp d && shp e then some (PyData.eqv d e) else none
  | _, _ => none
def strOfP : PV → Option Str
  | .str s => some s
  | _ => none
def eqP (x y : PV) : Option Bool := match strOfP x, strOfP y with
  | some a, some b => some (decide (a = b))
  | _, _ => eqDP x y
def inLP (x : PV) (ys : List PV) : Option Bool :=
  if flatP x && ys.all flatP then some (ys.any fun z => eqFP z x) else
    match dP x 6, dPs ys 5 with
    | some d, some ds => if shp d && shp (.list ds) then some (ds.any fun z => PyData.eqv z d) else none
    | _, _ => none
def inP (x y : PV) : Option Bool := match y with
  | .tup ys => if flatP x && ys.all flatP then some (ys.any fun z => eqFP z x) else none
  | .dct kvs => (keyOfP x).map fun k => (getKP k kvs).isSome
  | .lst ys => inLP x ys
  | .fro ys => inLP x ys
  | .str z => match x with
    | .str w => some (!(Builtin.Str.occurrences z w 0 z.length 1).isEmpty)
    | _ => none
  | _ => none
def isNon : PV → Bool
  | .non => true
  | _ => false
def cmpP (op : CmpOp) (x y : PV) : Option Bool :=
  match op with
  | .Eq => eqP x y
  | .NotEq => (eqP x y).map (!·)
  | .Lt => match x, y with
    | .int i, .int j => some (decide (i < j))
    | _, _ => none
  | .LtE => match x, y with
    | .int i, .int j => some (decide (i ≤ j))
    | _, _ => none
  | .Gt => match x, y with
    | .int i, .int j => some (decide (j < i))
    | _, _ => none
  | .GtE => match x, y with
    | .int i, .int j => some (decide (j ≤ i))
    | _, _ => none
  | .In => inP x y
  | .NotIn => (inP x y).map (!·)
  | .Is => match y with
    | .non => some (isNon x)
    | _ => none
  | .IsNot => match y with
    | .non => some (!isNon x)
    | _ => none
def ixP (x y : PV) : Option PV := match x, y with
  | .tup xs, .int i => atI xs i
  | .lst xs, .int i => atI xs i
  | .fro xs, .int i => atI xs i
  | .dct kvs, y => (keyOfP y).bind fun k => getKP k kvs
  | .str z, .int i => if z.length ≤ lineM then (atI z.cps.toList i).map fun c => .str ⟨#[c]⟩ else none
  | _, _ => none
def cutP (xs : List PV) (lo hi : Option Int) : List PV := (xs.drop (HT.sIx xs.length 0 lo)).take (HT.sIx xs.length xs.length hi - HT.sIx xs.length 0 lo)
def slP (x : PV) (lo hi : Option Int) : Option Opd := match x with
  | .tup xs => some (.val (.tup (cutP xs lo hi)))
  | .lst xs => some (.own (.lst (cutP xs lo hi)))
  | .fro xs => some (.own (.lst (cutP xs lo hi)))
  | .str z => if z.length ≤ lineM then some (.val (.str (cutS z lo hi))) else none
  | _ => none
def revP (x : PV) : Option Opd := match x with
  | .tup xs => some (.val (.tup xs.reverse))
  | .lst xs => some (.own (.lst xs.reverse))
  | .fro xs => some (.own (.lst xs.reverse))
  | _ => none
def setV (o i v : PV) : Option PV := match o with
  | .lst xs => match i with
    | .int i => (ixN xs.length i).bind fun j => if j < xs.length then some (.lst (xs.set j v)) else none
    | _ => none
  | .dct kvs => (keyOfP i).bind fun k => if kvs.length < lineM then some (.dct (putKP k v kvs)) else none
  | _ => none
def isiP (x : PV) (t : Ty) : Option Bool := match x with
  | .non => some false
  | .bl _ => some (decide (t = .int) || decide (t = .bool))
  | .int _ => some (decide (t = .int))
  | .str _ => some (decide (t = .str))
  | .tup _ => some (decide (t = .tuple))
  | .lst _ => some (decide (t = .list))
  | .dct _ => some (decide (t = .dict))
  | _ => none
def bltP (b : Bi) (vs : List PV) : Option Opd := match b, vs with
  | .len, [.str z] => if z.length ≤ lineM then some (.val (.int z.length)) else none
  | .len, [.tup xs] => some (.val (.int xs.length))
  | .len, [.lst xs] => some (.val (.int xs.length))
  | .len, [.fro xs] => some (.val (.int xs.length))
  | .len, [.dct xs] => some (.val (.int xs.length))
  | .sum, [v] => ((lstsP v).bind allIntsP).map fun ns => .val (.int ns.sum)
  | .all, [v] => ((lstsP v).bind allBlsP).map fun ns => .val (.bl (ns.all id))
  | .any, [v] => ((lstsP v).bind allBlsP).map fun ns => .val (.bl (ns.any id))
  | .tuple, [v] => (seqsP v).map fun xs => .val (.tup xs)
  | .list, [v] => (seqsP v).map fun xs => .own (.lst xs)
  | .int, [.int i] => some (.val (.int i))
  | .int, [.bl k] => some (.val (.int (if k then 1 else 0)))
  | .str, [.int i] => if i.natAbs.log2 < 1920 then some (.val (.str (toString i))) else none
  | .str, [.str s] => some (.val (.str s))
  | .repr, [v] => ((dP v 6).bind reprD).map fun s => .val (.str s)
  | .abs, [.int i] => some (.val (.int (if i < 0 then -i else i)))
  | .max, [.int i, .int j] => some (.val (.int (if j > i then j else i)))
  | .min, [.int i, .int j] => some (.val (.int (if j < i then j else i)))
  | .max, [v] => match (seqsP v).bind allIntsP with
    | some (n :: ns) => some (.val (.int (PySem.W.maxOf n ns)))
    | _ => none
  | .min, [v] => match (seqsP v).bind allIntsP with
    | some (n :: ns) => some (.val (.int (PySem.W.minOf n ns)))
    | _ => none
  | .sorted, [.dct kvs] => match intKeys kvs with
    | some ns => if ns.length < 64 then some (.own (.lst ((ns.mergeSort fun x y => decide (x ≤ y)).map .int))) else none
    | none => none
  | .sorted, [v] => ((lstsP v).bind allIntsP).map fun ns => .own (.lst ((ns.mergeSort fun x y => decide (x ≤ y)).map .int))
  | _, _ => none
def kdP : PV → Option Kd
  | .str _ => some .str
  | .tup _ => some .tuple
  | .lst _ => some .list
  | .fro _ => some .list
  | .dct _ => some .dict
  | _ => none
section
local instance (priority := 10000) clP5 (p : Prop) : Decidable p := Classical.propDecidable p
/-- a method that changes its list: what it tells, and the list behind it -/
def methP (m : Me) (o : PV) (vs : List PV) : Option (PV × PV) := match o with
  | .lst xs => match m, vs with
    | .append, [y] => if xs.length < lineM then some (.non, .lst (xs ++ [y])) else none
    | .extend, [.lst ys] => if xs.length + ys.length ≤ lineM then some (.non, .lst (xs ++ ys)) else none
    | .pop, [] => (xs[xs.length - 1]?).map fun y => (y, .lst xs.dropLast)
    | .pop, [.int i] => if 0 ≤ i ∧ i < 2 ^ 62 then (xs[i.toNat]?).map fun y => (y, .lst (xs.eraseIdx i.toNat)) else none
    | .insert, [.int i, y] => if xs.length < lineM ∧ 0 ≤ i ∧ i < 2 ^ 62 then some (.non, .lst (xs.take i.toNat ++ [y] ++ xs.drop i.toNat)) else none
    | .reverse, [] => some (.non, .lst xs.reverse)
    | .clear, [] => some (.non, .lst [])
    | _, _ => none
  | _ => none
end
/-- a method that only reads -/
def readP (m : Me) (o : PV) (vs : List PV) : Option Opd := match o with
  | .dct kvs => match m, vs with
    | .get, [k] => (keyOfP k).map fun k => .val ((getKP k kvs).getD .non)
    | .get, [k, d] => (keyOfP k).map fun k => .val ((getKP k kvs).getD d)
    | _, _ => none
  | _ => none
def Me.reads : Me → Bool
  | .get => true
  | _ => false
def enumP (xs : List PV) : List PV := xs.mapIdx fun i x => .tup [.int i, x]
def zipP (xs ys : List PV) : List PV := xs.zipWith (fun x y => .tup [x, y]) ys
def rngIP (lo : Int) (n : Nat) : List PV := (List.range n).map fun k => .int (lo + (k : Nat))
def pairUpP : List PV → Option (List (Key × PV))
  | [] => some []
  | x :: y :: r => match keyOfP x, pairUpP r with
    | some k, some ps => some ((k, y) :: ps)
    | _, _ => none
  | _ => none
section
local instance (priority := 10000) clP6 (p : Prop) : Decidable p := Classical.propDecidable p
def rngP (x y : PV) : Option (List PV) := match x, y with
  | .int i, .int j => if -(2 ^ 62) ≤ i ∧ i < 2 ^ 62 ∧ -(2 ^ 62) ≤ j ∧ j < 2 ^ 62 ∧ (j - i).toNat ≤ lineM then some (rngIP i (j - i).toNat) else none
  | _, _ => none
def itP (k : IK) (x y : PV) : Option (List PV) := match k, x, y with
  | .val, x, _ => seqsP x
  | .rng1, .int j, _ => if -(2 ^ 62) ≤ j ∧ j < 2 ^ 62 then some (rngIP 0 j.toNat) else none
  | .rng2, .int i, .int j => if (-(2 ^ 62) ≤ i ∧ i < 2 ^ 62) ∧ (-(2 ^ 62) ≤ j ∧ j < 2 ^ 62) then some (rngIP i (j - i).toNat) else none
  | .enum, x, _ => (seqsP x).map enumP
  | .zip, .tup xs, .tup ys => some (zipP xs ys)
  | .zip, x, y => match lstsP x, lstsP y with
    | some xs, some ys => some (zipP xs ys)
    | _, _ => none
  | _, _, _ => none
end
/-! ### stores -/
structure CQ where
  call : Str → List PV → CR
  sig : Str → Option (List PK × Bool)
  cl : Nat → Cls
  gl : Str → Option MV
  fuel : Nat
/-- what a variable holds, where it may be read -/
def rdV (σ : PS) (i : Nat) : Option PV := match σ[i]? with
  | some (some v) => if isLk v then none else some v
  | _ => none
def lookO (σ : PS) : Opd → Option PV
  | .val v => some v
  | .own v => some v
  | .bor i => rdV σ i
def looks (σ : PS) : List Opd → Option (List PV)
  | [] => some []
  | o :: os => match lookO σ o, looks σ os with
    | some v, some vs => some (v :: vs)
    | _, _ => none
/-- as a value that may be kept: a variable's own is taken out of it -/
def force (cl : Nat → Cls) (o : Opd) (σ : PS) : Option (Opd × PS) := match o with
  | .val v => some (.val v, σ)
  | .own v => some (.own v, σ)
  | .bor i => if cl i = .ow then (rdV σ i).map fun v => (if isLD v then .own v else .val v, σ.set i none) else none
def Opd.v : Opd → PV
  | .val v => v
  | .own v => v
  | .bor _ => .non
def forces (cl : Nat → Cls) : List Opd → PS → Option (List PV × PS)
  | [], σ => some ([], σ)
  | o :: os, σ => match force cl o σ with
    | some (o', σ1) => match forces cl os σ1 with
      | some (vs, σ2) => some (o'.v :: vs, σ2)
      | none => none
    | none => none
def lockO (o : Opd) (σ : PS) : Option (PV × PS) := match o with
  | .val v => some (v, σ)
  | .own v => some (v, σ)
  | .bor i => (rdV σ i).map fun v => (v, σ.set i (some .lck))
def unlockO (o : Opd) (v : PV) (σ : PS) : PS := match o with
  | .bor i => σ.set i (some v)
  | _ => σ
mutual
def asgP (cl : Nat → Cls) : MT → PV → PS → Option PS
  | .nm i, v, σ => match cl i with
    | .sh => some (σ.set i (some v))
    | .ow => if isLD v then none else match σ[i]? with
      | some (some .lck) => none
      | _ => some (σ.set i (some v))
    | _ => none
  | .tp ts, .tup xs, σ => if xs.length = ts.length then asgPs cl ts xs σ else none
  | .tp _, _, _ => none
def asgPs (cl : Nat → Cls) : List MT → List PV → PS → Option PS
  | [], _, σ => some σ
  | t :: ts, x :: xs, σ => (asgP cl t x σ).bind fun σ => asgPs cl ts xs σ
  | _ :: _, [], _ => none
end
/-- a name, or names, given what an expression came to -/
def asgO (cl : Nat → Cls) (t : MT) (o : Opd) (σ : PS) : Option PS := match t, o with
  | .nm i, .own v => match cl i with
    | .sh => some (σ.set i (some v))
    | .ow => match σ[i]? with
      | some (some .lck) => none
      | _ => some (σ.set i (some v))
    | _ => none
  | t, .val v => asgP cl t v σ
  | _, _ => none
def asgF (cl : Nat → Cls) (t : MT) (o : Opd) (σ : PS) : Option PS := match force cl o σ with
  | some (o, σ) => asgO cl t o σ
  | none => none
def forceQ (cl : Nat → Cls) (o : Opd) (σ : PS) : Q PV := match force cl o σ with
  | some (o, σ) => .ok o.v σ
  | none => .bad
/-! ### calls -/
/-- the arguments' values; what is taken as a value is taken out -/
def argsP (cl : Nat → Cls) : List PK → List Opd → PS → Option (List PV × PS)
  | [], [], σ => some ([], σ)
  | k :: ks, o :: os, σ => match k, o with
    | .pl, o => match force cl o σ with
      | some (o', σ1) => (argsP cl ks os σ1).map fun p => (o'.v :: p.1, p.2)
      | none => none
    | .io, .bor i => if cl i = .ow ∨ cl i = .io then match rdV σ i with
        | some v => (argsP cl ks os (σ.set i (some .lck))).map fun p => (v :: p.1, p.2)
        | none => none
      else none
    | .io, _ => none
    | .br, .bor i => match rdV σ i with
      | some v => if (cl i ≠ .ow ∧ cl i ≠ .io) ∨ isLD v = true then (argsP cl ks os (σ.set i (some .lck))).map fun p => (v :: p.1, p.2) else none
      | none => none
    | .br, o => (argsP cl ks os σ).map fun p => (o.v :: p.1, p.2)
  | _, _, _ => none
/-- the variables behind the call -/
def backP : List PK → List Opd → List PV → PS → PS
  | .pl :: ks, _ :: os, _ :: vs, σ => backP ks os vs σ
  | _ :: ks, .bor i :: os, v :: vs, σ => (backP ks os vs σ).set i (some v)
  | _ :: ks, _ :: os, _ :: vs, σ => backP ks os vs σ
  | _, _, _, σ => σ
/-! ### the evaluator -/
inductive FlP where
  | nx | ret (o : Opd) | brk | cont
def oO {α : Type} (o : Option α) (σ : PS) : Q α := match o with
  | some a => .ok a σ
  | none => .bad
def oB (o : Option Bool) (σ : PS) : Q Opd := match o with
  | some b => .ok (.val (.bl b)) σ
  | none => .bad
def oV (o : Option PV) (σ : PS) : Q Opd := match o with
  | some b => .ok (.val b) σ
  | none => .bad
/-- of what one operand is worth -/
def on1 {α : Type} (σ : PS) (o : Opd) (f : PV → Option α) : Option α := match lookO σ o with
  | some x => f x
  | none => none
def on2 {α : Type} (σ : PS) (o p : Opd) (f : PV → PV → Option α) : Option α := match lookO σ o, lookO σ p with
  | some x, some y => f x y
  | _, _ => none
def intO (σ : PS) (o : Opd) : Option Int := match lookO σ o with
  | some (.int i) => some i
  | _ => none
def wipeP (σ : PS) : List Nat → PS
  | [] => σ
  | v :: vs => (wipeP σ vs).set v none
def lcOk (cl : Nat → Cls) (tg : MT) (own : List Nat) : Bool := tg.slots.all (fun i => own.contains i) && own.all fun i => decide (cl i = .sh)
def compP (step : PV → PS → Q (Option PV)) : List PV → PS → Q (List PV)
  | [], σ => .ok [] σ
  | v :: vs, σ => (step v σ).bind fun o σ => (compP step vs σ).bind fun ys σ => .ok (o.toList ++ ys) σ
def forP (step : PV → PS → Q FlP) : List PV → PS → Q FlP
  | [], σ => .ok .nx σ
  | v :: vs, σ => (step v σ).bind fun
    | .nx, σ => forP step vs σ
    | .cont, σ => forP step vs σ
    | .brk, σ => .ok .nx σ
    | .ret o, σ => .ok (.ret o) σ
def whlP (test : PS → Q Opd) (step : PS → Q FlP) : Nat → PS → Q FlP
  | 0, _ => .bad
  | n + 1, σ => (test σ).bind fun o σ => match on1 σ o truthP with
    | some true => (step σ).bind fun
      | .nx, σ => whlP test step n σ
      | .cont, σ => whlP test step n σ
      | .brk, σ => .ok .nx σ
      | .ret o, σ => .ok (.ret o) σ
    | some false => .ok .nx σ
    | none => .bad
/-- own slots as they were -/
def restP (σ0 : PS) : List Nat → PS → PS
  | [], σ => σ
  | v :: vs, σ => (restP σ0 vs σ).set v (σ0[v]?).join
def lcStepP (a : Option PS) (ts : PS → Q Bool) (el : PS → Q PV) : Q (Option PV) := match a with
  | some σ => (ts σ).bind fun
    | true, σ => (el σ).bind fun y σ => .ok (some y) σ
    | false, σ => .ok none σ
  | none => .bad
def compQ (cl : Nat → Cls) (tg : MT) (own : List Nat) (ts : PS → Q Bool) (el : PS → Q PV) (xs : List PV) (σ0 : PS) : Q (List PV) :=
  (compP (fun v σ => lcStepP (asgP cl tg v (wipeP σ own)) ts el) xs σ0).bind fun vs σ => .ok vs (restP σ0 own σ)
def forStepP (a : Option PS) (b : PS → Q FlP) : Q FlP := match a with
  | some σ => b σ
  | none => .bad
/-- what a loop walks, its variables shut meanwhile -/
def srcP (ik : IK) (oa ob : Opd) (σ : PS) : Option (PV × PV × List PV × PS) := match lockO oa σ with
  | some (x, σ1) => match lockO ob σ1 with
    | some (y, σ2) => (itP ik x y).map fun xs => (x, y, xs, σ2)
    | none => none
  | none => none
def callP (X : CQ) (f : Str) (os : List Opd) (σ : PS) : Q Opd := match X.sig f with
  | some (pk, _) => match argsP X.cl pk os σ with
    | some (vs, σ1) => match X.call f vs with
      | .ok o ios => .ok o (backP pk os ios σ1)
      | .exc c fs ios => .exc c fs (backP pk os ios σ1)
      | .bad => .bad
    | none => .bad
  | none => .bad
def canP (cl : Nat → Cls) (i : Nat) : Bool := match cl i with
  | .ow => true
  | .io => true
  | _ => false
def methO (cl : Nat → Cls) (m : Me) (kd : Kd) (ob : Opd) (os : List Opd) (σ : PS) : Q Opd := match forces cl os σ with
  | some (vs, σ1) => if m.reads then (match lookO σ1 ob with
      | some x => if kdP x = some kd then oO (readP m x vs) σ1 else .bad
      | none => .bad)
    else match ob with
    | .bor i => if canP cl i then (match rdV σ1 i with
        | some x => if kdP x = some kd then (match methP m x vs with
          | some (y, x') => .ok (.val y) (σ1.set i (some x'))
          | none => .bad) else .bad
        | none => .bad) else .bad
    | _ => .bad
  | none => .bad
mutual
def evP (X : CQ) : ME → PS → Q Opd
  | .c v, σ => if noRef v then .ok (.val (emb v)) σ else .bad
  | .var i, σ => match rdV σ i with
    | some v => if X.cl i = .sh then .ok (.val v) σ else .ok (.bor i) σ
    | none => .bad
  | .glb x, σ => match X.gl x with
    | some v => if noRef v then .ok (.val (emb v)) σ else .bad
    | none => .bad
  | .tup es, σ => (evPs X es σ).bind fun os σ => match forces X.cl os σ with
    | some (vs, σ) => .ok (.val (.tup vs)) σ
    | none => .bad
  | .lst es, σ => (evPs X es σ).bind fun os σ => match forces X.cl os σ with
    | some (vs, σ) => .ok (.own (.lst vs)) σ
    | none => .bad
  | .bin op a b, σ => (evP X a σ).bind fun o σ => (evP X b σ).bind fun p σ => oO (on2 σ o p (binP op)) σ
  | .neg a, σ => (evP X a σ).bind fun o σ => match intO σ o with
    | some i => .ok (.val (.int (-i))) σ
    | none => .bad
  | .not_ a, σ => (evP X a σ).bind fun o σ => oB ((on1 σ o truthP).map (!·)) σ
  | .cmp op a b, σ => (evP X a σ).bind fun o σ => (evP X b σ).bind fun p σ => oB (on2 σ o p (cmpP op)) σ
  | .chain o1 o2 a b c, σ => (evP X a σ).bind fun o σ => (evP X b σ).bind fun p σ => match on2 σ o p (cmpP o1) with
    | some true => (evP X c σ).bind fun q σ => oB (on2 σ p q (cmpP o2)) σ
    | some false => .ok (.val (.bl false)) σ
    | none => .bad
  | .and_ a b, σ => (evP X a σ).bind fun o σ => match on1 σ o truthP with
    | some true => evP X b σ
    | some false => .ok o σ
    | none => .bad
  | .or_ a b, σ => (evP X a σ).bind fun o σ => match on1 σ o truthP with
    | some true => .ok o σ
    | some false => evP X b σ
    | none => .bad
  | .ife t a b, σ => (evP X t σ).bind fun o σ => match on1 σ o truthP with
    | some true => evP X a σ
    | some false => evP X b σ
    | none => .bad
  | .ix a b, σ => (evP X a σ).bind fun o σ => (evP X b σ).bind fun p σ => oV (on2 σ o p ixP) σ
  | .sl a, σ => (evP X a σ).bind fun o σ => oO (on1 σ o fun x => slP x none none) σ
  | .slL a lo, σ => (evP X a σ).bind fun o σ => (evP X lo σ).bind fun p σ => match intO σ p with
    | some i => oO (on1 σ o fun x => slP x (some i) none) σ
    | none => .bad
  | .slH a hi, σ => (evP X a σ).bind fun o σ => (evP X hi σ).bind fun p σ => match intO σ p with
    | some i => oO (on1 σ o fun x => slP x none (some i)) σ
    | none => .bad
  | .slB a lo hi, σ => (evP X a σ).bind fun o σ => (evP X lo σ).bind fun p σ => match intO σ p with
    | some i => (evP X hi σ).bind fun q σ => match intO σ q with
      | some j => oO (on1 σ o fun x => slP x (some i) (some j)) σ
      | none => .bad
    | none => .bad
  | .rev a, σ => (evP X a σ).bind fun o σ => oO (on1 σ o revP) σ
  | .call f es, σ => (evPs X es σ).bind fun os σ => callP X f os σ
  | .blt b es, σ => (evPs X es σ).bind fun os σ => match looks σ os with
    | some vs => oO (bltP b vs) σ
    | none => .bad
  | .meth m o es, σ => (evP X o σ).bind fun ob σ => match on1 σ ob kdP with
    | some kd => (evPs X es σ).bind fun os σ => methO X.cl m kd ob os σ
    | none => .bad
  | .isi a t, σ => (evP X a σ).bind fun o σ => oB (on1 σ o fun x => isiP x t) σ
  | .dsp es, σ => (evPs X es σ).bind fun os σ => match forces X.cl os σ with
    | some (vs, σ) => match pairUpP vs with
      | some ps => .ok (.own (.dct (ps.foldl (fun acc kv => putKP kv.1 kv.2 acc) []))) σ
      | none => .bad
    | none => .bad
  | .rngL a b, σ => (evP X a σ).bind fun o σ => (evP X b σ).bind fun p σ => match on2 σ o p rngP with
    | some xs => .ok (.own (.lst xs)) σ
    | none => .bad
  | .rngT a b, σ => (evP X a σ).bind fun o σ => (evP X b σ).bind fun p σ => match on2 σ o p rngP with
    | some xs => .ok (.val (.tup xs)) σ
    | none => .bad
  | .lc elt tg ik a b ifs own, σ => (evP X a σ).bind fun oa σ => (evP X b σ).bind fun ob σ => match srcP ik oa ob σ with
    | some (x, y, xs, σ) => if lcOk X.cl tg own && decide (xs.length ≤ lineM) then
        (compQ X.cl tg own (fun σ => evPts X ifs σ) (fun σ => (evP X elt σ).bind fun o σ => forceQ X.cl o σ) xs σ).bind fun vs σ =>
          .ok (.own (.lst vs)) (unlockO oa x (unlockO ob y σ))
      else .bad
    | none => .bad
def evPs (X : CQ) : List ME → PS → Q (List Opd)
  | [], σ => .ok [] σ
  | e :: es, σ => (evP X e σ).bind fun o σ => (evPs X es σ).bind fun os σ => .ok (o :: os) σ
def evPts (X : CQ) : List ME → PS → Q Bool
  | [], σ => .ok true σ
  | e :: es, σ => (evP X e σ).bind fun o σ => match on1 σ o truthP with
    | some true => evPts X es σ
    | some false => .ok false σ
    | none => .bad
end
mutual
def evT (X : CQ) : MS → PS → Q FlP
  | .asg tg e, σ => (evP X e σ).bind fun o σ => match asgF X.cl tg o σ with
    | some σ => .ok .nx σ
    | none => .bad
  | .asgSub o i e, σ => (evP X e σ).bind fun oe σ => (evP X o σ).bind fun ob σ => (evP X i σ).bind fun oi σ => match force X.cl oe σ with
    | some (v, σ) => match ob, lookO σ oi with
      | .bor j, some y => if canP X.cl j then (match (rdV σ j).bind fun x => setV x y v.v with
        | some x' => .ok .nx (σ.set j (some x'))
        | none => .bad) else .bad
      | _, _ => .bad
    | none => .bad
  | .expr e, σ => (evP X e σ).bind fun _ σ => .ok .nx σ
  | .ret e, σ => (evP X e σ).bind fun o σ => match force X.cl o σ with
    | some (o, σ) => .ok (.ret o) σ
    | none => .bad
  | .retN, σ => .ok (.ret (.val .non)) σ
  | .ite t a b, σ => (evP X t σ).bind fun o σ => match on1 σ o truthP with
    | some true => evTs' X a σ
    | some false => evTs' X b σ
    | none => .bad
  | .for_ tg ik a b body, σ => (evP X a σ).bind fun oa σ => (evP X b σ).bind fun ob σ => match srcP ik oa ob σ with
    | some (x, y, xs, σ) => (forP (fun v σ => forStepP (asgP X.cl tg v σ) (fun σ => evTs' X body σ)) xs σ).bind fun fl σ =>
        .ok fl (unlockO oa x (unlockO ob y σ))
    | none => .bad
  | .whl t body, σ => whlP (fun σ => evP X t σ) (fun σ => evTs' X body σ) X.fuel σ
  | .pass, σ => .ok .nx σ
  | .brk, σ => .ok .brk σ
  | .cont, σ => .ok .cont σ
def evTs' (X : CQ) : List MS → PS → Q FlP
  | [], σ => .ok .nx σ
  | s :: ss, σ => (evT X s σ).bind fun
    | .nx, σ => evTs' X ss σ
    | f, σ => .ok f σ
end
/-! ### functions -/
structure FP where
  np : Nat
  nl : Nat
  body : List MS
  cs : List Cls
  pk : List PK
  fr : Bool
def FP.cl (f : FP) (i : Nat) : Cls := (f.cs[i]?).getD .sh
def PK.cls : PK → Cls
  | .pl => .sh
  | .io => .io
  | .br => .br
def okC : List PK → List Cls → Bool
  | [], _ => true
  | k :: ks, c :: cs => decide (c = k.cls) && okC ks cs
  | _ :: _, [] => false
def okB : List Cls → Bool
  | [] => true
  | c :: cs => decide (c ≠ .bf) && okB cs
def FP.good (f : FP) : Bool := decide (f.pk.length = f.np) && decide (f.np ≤ f.nl) && okC f.pk f.cs && okB f.cs
/-- what the parameters hold behind the call -/
def outsP : List PK → List PV → PS → Option (List PV)
  | [], [], _ => some []
  | .pl :: ks, v :: vs, _ :: σ => (outsP ks vs σ).map (v :: ·)
  | _ :: ks, _ :: vs, some v :: σ => if isLk v then none else (outsP ks vs σ).map (v :: ·)
  | _, _, _ => none
def exitP (f : FP) (vs : List PV) (o : Opd) (σ : PS) : CR := match outsP f.pk vs σ with
  | some ios => if f.fr then (match o with
      | .own v => .ok (.own v) ios
      | .val v => if isLD v then .bad else .ok (.val v) ios
      | .bor _ => .bad)
    else .ok (.val o.v) ios
  | none => .bad
def finP (f : FP) (vs : List PV) (r : Q FlP) : CR := match r with
  | .ok (.ret o) σ => exitP f vs o σ
  | .ok .nx σ => exitP f vs (.val .non) σ
  | .exc c fs σ => match outsP f.pk vs σ with
    | some ios => .exc c fs ios
    | none => .bad
  | _ => .bad
def sigP (Γ : Str → Option FP) (f : Str) : Option (List PK × Bool) := (Γ f).map fun d => (d.pk, d.fr)
def runP (Γ : Str → Option FP) (gl : Str → Option MV) (W : Nat) : Nat → Str → List PV → CR
  | 0, _, _ => .bad
  | d + 1, f, vs => match Γ f with
    | some fd => if vs.length = fd.np ∧ fd.good = true then finP fd vs (evTs' ⟨runP Γ gl W d, sigP Γ, fd.cl, gl, W⟩ fd.body (vs.map some ++ List.replicate (fd.nl - fd.np) none)) else .bad
    | none => .bad
end Mn

set_option maxHeartbeats 1000000
/-! Pr: how trees stand for small values; stores; steps. -/
namespace Mn
open PySem L2

section
variable (N : Nat → Prop) (h : MH)
mutual
/-- m reads as v, and no place in N lies on the way -/
inductive Rd : MV → PV → Prop
  | non : Rd .non .non
  | bl (b : Bool) : Rd (.bl b) (.bl b)
  | int (i : Int) : Rd (.int i) (.int i)
  | str (s : Str) : Rd (.str s) (.str s)
  | tup {ms : List MV} {vs : List PV} : Rds ms vs → Rd (.tup ms) (.tup vs)
  | lst {a : Nat} {ms : List MV} {vs : List PV} : ¬ N a → h[a]? = some (.lst ms) → Rds ms vs → Rd (.ref a) (.lst vs)
  | fro {a : Nat} {ms : List MV} {vs : List PV} : ¬ N a → h[a]? = some (.fro ms) → Rds ms vs → Rd (.ref a) (.fro vs)
  | dct {a : Nat} {ks : List (Key × MV)} {kvs : List (Key × PV)} : ¬ N a → h[a]? = some (.dct ks) → Rdk ks kvs → Rd (.ref a) (.dct kvs)
inductive Rds : List MV → List PV → Prop
  | nil : Rds [] []
  | cons {m : MV} {v : PV} {ms : List MV} {vs : List PV} : Rd m v → Rds ms vs → Rds (m :: ms) (v :: vs)
inductive Rdk : List (Key × MV) → List (Key × PV) → Prop
  | nil : Rdk [] []
  | cons {k : Key} {m : MV} {v : PV} {ks : List (Key × MV)} {kvs : List (Key × PV)} : Rd m v → Rdk ks kvs → Rdk ((k, m) :: ks) ((k, v) :: kvs)
end
/-- the object at a place reads as v within -/
inductive Rt (a : Nat) : PV → Prop
  | lst {ms : List MV} {vs : List PV} : h[a]? = some (.lst ms) → Rds N h ms vs → Rt a (.lst vs)
  | dct {ks : List (Key × MV)} {kvs : List (Key × PV)} : h[a]? = some (.dct ks) → Rdk N h ks kvs → Rt a (.dct kvs)
/-- m reads as v, its own place apart -/
inductive Ct : MV → PV → Prop
  | rd {m : MV} {v : PV} : Rd N h m v → Ct m v
  | rt {a : Nat} {v : PV} : Rt N h a v → Ct (.ref a) v
end
section
variable {N N' : Nat → Prop} {h h' : MH}
mutual
theorem Rd.mono (q : ∀ a o, ¬ N a → h[a]? = some o → ¬ N' a ∧ h'[a]? = some o) : ∀ {m : MV} {v : PV}, Rd N h m v → Rd N' h' m v
  | _, _, .non => .non
  | _, _, .bl b => .bl b
  | _, _, .int i => .int i
  | _, _, .str s => .str s
  | _, _, .tup r => .tup (Rds.mono q r)
  | _, _, .lst n e r => .lst (q _ _ n e).1 (q _ _ n e).2 (Rds.mono q r)
  | _, _, .fro n e r => .fro (q _ _ n e).1 (q _ _ n e).2 (Rds.mono q r)
  | _, _, .dct n e r => .dct (q _ _ n e).1 (q _ _ n e).2 (Rdk.mono q r)
theorem Rds.mono (q : ∀ a o, ¬ N a → h[a]? = some o → ¬ N' a ∧ h'[a]? = some o) : ∀ {m : List MV} {v : List PV}, Rds N h m v → Rds N' h' m v
  | _, _, .nil => .nil
  | _, _, .cons a b => .cons (Rd.mono q a) (Rds.mono q b)
theorem Rdk.mono (q : ∀ a o, ¬ N a → h[a]? = some o → ¬ N' a ∧ h'[a]? = some o) : ∀ {m : List (Key × MV)} {v : List (Key × PV)}, Rdk N h m v → Rdk N' h' m v
  | _, _, .nil => .nil
  | _, _, .cons a b => .cons (Rd.mono q a) (Rdk.mono q b)
end
theorem Rt.mono (q : ∀ a o, ¬ N a → h[a]? = some o → ¬ N' a ∧ h'[a]? = some o) {a : Nat} {v : PV} (e : h'[a]? = h[a]?) (r : Rt N h a v) : Rt N' h' a v := by
  cases r with
  | lst e1 r => exact .lst (e.trans e1) (r.mono q)
  | dct e1 r => exact .dct (e.trans e1) (r.mono q)
theorem Rd.weak (q : ∀ a, N' a → N a) {m : MV} {v : PV} (r : Rd N h m v) : Rd N' h m v := r.mono fun a o n e => ⟨fun z => n (q a z), e⟩
theorem Rds.weak (q : ∀ a, N' a → N a) {m : List MV} {v : List PV} (r : Rds N h m v) : Rds N' h m v := r.mono fun a o n e => ⟨fun z => n (q a z), e⟩
theorem Rdk.weak (q : ∀ a, N' a → N a) {m : List (Key × MV)} {v : List (Key × PV)} (r : Rdk N h m v) : Rdk N' h m v := r.mono fun a o n e => ⟨fun z => n (q a z), e⟩
theorem Rt.weak (q : ∀ a, N' a → N a) {a : Nat} {v : PV} (r : Rt N h a v) : Rt N' h a v := r.mono (fun a o n e => ⟨fun z => n (q a z), e⟩) rfl
theorem Ct.weak (q : ∀ a, N' a → N a) {m : MV} {v : PV} (r : Ct N h m v) : Ct N' h m v := by
  cases r with
  | rd r => exact .rd (r.weak q)
  | rt r => exact .rt (r.weak q)
theorem Rt.frz {a : Nat} {v : PV} (r : Rt N h a v) (n : ¬ N a) : Rd N h (.ref a) v := by
  cases r with
  | lst e r => exact .lst n e r
  | dct e r => exact .dct n e r
theorem Rt.lt {a : Nat} {v : PV} (r : Rt N h a v) : a < h.length := by
  cases r with
  | lst e r => exact (List.getElem?_eq_some_iff.mp e).1
  | dct e r => exact (List.getElem?_eq_some_iff.mp e).1
theorem Rt.ld {a : Nat} {v : PV} (r : Rt N h a v) : isLD v = true := by cases r <;> rfl
theorem Rt.nlk {a : Nat} {v : PV} (r : Rt N h a v) : isLk v = false := by cases r <;> rfl
theorem Rd.nlk {m : MV} {v : PV} (r : Rd N h m v) : isLk v = false := by cases r <;> rfl
theorem Ct.nlk {m : MV} {v : PV} (r : Ct N h m v) : isLk v = false := by
  cases r with
  | rd r => exact r.nlk
  | rt r => exact r.nlk
/-! lists -/
theorem Rds.length {ms : List MV} {vs : List PV} (r : Rds N h ms vs) : ms.length = vs.length := by
  induction ms generalizing vs with
  | nil => cases r; rfl
  | cons m ms ih => cases r with | cons a b => simp [ih b]
theorem Rds.isEmpty {ms : List MV} {vs : List PV} (r : Rds N h ms vs) : ms.isEmpty = vs.isEmpty := by cases r <;> rfl
theorem Rds.get {ms : List MV} {vs : List PV} (r : Rds N h ms vs) {i : Nat} {v : PV} (e : vs[i]? = some v) : ∃ m, ms[i]? = some m ∧ Rd N h m v := by
  induction ms generalizing vs i with
  | nil => cases r; simp at e
  | cons m ms ih =>
    cases r with
    | cons a b =>
      cases i with
      | zero => simp at e; subst e; exact ⟨_, rfl, a⟩
      | succ i => simpa using ih b (by simpa using e)
theorem Rds.append {ms ns : List MV} {vs ws : List PV} (r : Rds N h ms vs) (s : Rds N h ns ws) : Rds N h (ms ++ ns) (vs ++ ws) := by
  induction ms generalizing vs with
  | nil => cases r; exact s
  | cons m ms ih => cases r with | cons a b => exact .cons a (ih b)
theorem Rds.take {ms : List MV} {vs : List PV} (r : Rds N h ms vs) (n : Nat) : Rds N h (ms.take n) (vs.take n) := by
  induction ms generalizing vs n with
  | nil => cases r; simp; exact .nil
  | cons m ms ih =>
    cases r with
    | cons a b =>
      cases n with
      | zero => exact .nil
      | succ n => exact .cons a (ih b n)
theorem Rds.drop {ms : List MV} {vs : List PV} (r : Rds N h ms vs) (n : Nat) : Rds N h (ms.drop n) (vs.drop n) := by
  induction ms generalizing vs n with
  | nil => cases r; simp; exact .nil
  | cons m ms ih =>
    cases r with
    | cons a b =>
      cases n with
      | zero => exact .cons a b
      | succ n => exact ih b n
theorem Rds.reverse {ms : List MV} {vs : List PV} (r : Rds N h ms vs) : Rds N h ms.reverse vs.reverse := by
  induction ms generalizing vs with
  | nil => cases r; exact .nil
  | cons m ms ih => cases r with | cons a b => simp only [List.reverse_cons]; exact (ih b).append (.cons a .nil)
theorem Rds.set {ms : List MV} {vs : List PV} (r : Rds N h ms vs) {m : MV} {v : PV} (x : Rd N h m v) (i : Nat) : Rds N h (ms.set i m) (vs.set i v) := by
  induction ms generalizing vs i with
  | nil => cases r; exact .nil
  | cons y ms ih =>
    cases r with
    | cons a b =>
      cases i with
      | zero => exact .cons x b
      | succ i => exact .cons a (ih b i)
theorem Rds.eraseIdx {ms : List MV} {vs : List PV} (r : Rds N h ms vs) (i : Nat) : Rds N h (ms.eraseIdx i) (vs.eraseIdx i) := by
  induction ms generalizing vs i with
  | nil => cases r; exact .nil
  | cons y ms ih =>
    cases r with
    | cons a b =>
      cases i with
      | zero => exact b
      | succ i => exact .cons a (ih b i)
theorem Rds.dropLast {ms : List MV} {vs : List PV} (r : Rds N h ms vs) : Rds N h ms.dropLast vs.dropLast := by
  rw [List.dropLast_eq_take, List.dropLast_eq_take, r.length]; exact r.take _
theorem Rds.rep {ms : List MV} {vs : List PV} (r : Rds N h ms vs) (k : Nat) : Rds N h (List.replicate k ms).flatten (List.replicate k vs).flatten := by
  induction k with
  | zero => exact .nil
  | succ k ih => simp only [List.replicate_succ, List.flatten_cons]; exact r.append ih
theorem Rds.cut {ms : List MV} {vs : List PV} (r : Rds N h ms vs) (lo hi : Option Int) : Rds N h (cutM ms lo hi) (cutP vs lo hi) := by
  unfold cutM cutP
  rw [r.length]
  exact (r.drop _).take _
theorem Rds.ints : ∀ (is : List Int), Rds N h (is.map .int) (is.map .int)
  | [] => .nil
  | i :: is => .cons (.int i) (Rds.ints is)
theorem Rds.rng (lo : Int) (n : Nat) : Rds N h (rngI lo n) (rngIP lo n) := by
  unfold rngI rngIP
  generalize List.range n = l
  induction l with
  | nil => exact .nil
  | cons x l ih => exact .cons (.int _) ih
theorem Rds.enumFrom {ms : List MV} {vs : List PV} (r : Rds N h ms vs) (f : Nat → Int) : Rds N h (ms.mapIdx fun i x => .tup [.int (f i), x]) (vs.mapIdx fun i x => .tup [.int (f i), x]) := by
  induction ms generalizing vs f with
  | nil => cases r; exact .nil
  | cons m ms ih =>
    cases r with
    | cons a b =>
      simp only [List.mapIdx_cons]
      exact .cons (.tup (.cons (.int _) (.cons a .nil))) (ih b fun i => f (i + 1))
theorem Rds.enum {ms : List MV} {vs : List PV} (r : Rds N h ms vs) : Rds N h (enumI ms) (enumP vs) := r.enumFrom fun i => (i : Int)
theorem Rds.zip {ms ns : List MV} {vs ws : List PV} (r : Rds N h ms vs) (s : Rds N h ns ws) : Rds N h (zipI ms ns) (zipP vs ws) := by
  unfold zipI zipP
  induction ms generalizing vs ns ws with
  | nil => cases r; exact .nil
  | cons m ms ih =>
    cases r with
    | cons a b =>
      cases s with
      | nil => exact .nil
      | cons c d => exact .cons (.tup (.cons a (.cons c .nil))) (ih b d)
theorem Rds.allInts {ms : List MV} {vs : List PV} (r : Rds N h ms vs) : Mn.allInts ms = allIntsP vs := by
  induction ms generalizing vs with
  | nil => cases r; rfl
  | cons m ms ih => cases r with | cons a b => cases a <;> simp [Mn.allInts, allIntsP, ih b]
theorem Rds.allBls {ms : List MV} {vs : List PV} (r : Rds N h ms vs) : Mn.allBls ms = allBlsP vs := by
  induction ms generalizing vs with
  | nil => cases r; rfl
  | cons m ms ih => cases r with | cons a b => cases a <;> simp [Mn.allBls, allBlsP, ih b]
mutual
theorem Rd.emb : ∀ {v : MV}, noRef v = true → Rd N h v (emb v)
  | .non, _ => .non
  | .bl b, _ => .bl b
  | .int i, _ => .int i
  | .str s, _ => .str s
  | .tup xs, q => .tup (Rds.embs (by simpa [noRef] using q))
  | .ref a, q => by simp [noRef] at q
theorem Rds.embs : ∀ {v : List MV}, noRefs v = true → Rds N h v (embs v)
  | [], _ => .nil
  | x :: xs, q => by
    simp only [noRefs, Bool.and_eq_true] at q
    exact .cons (Rd.emb q.1) (Rds.embs q.2)
end
/-! dicts -/
theorem Rdk.length {ms : List (Key × MV)} {vs : List (Key × PV)} (r : Rdk N h ms vs) : ms.length = vs.length := by
  induction ms generalizing vs with
  | nil => cases r; rfl
  | cons m ms ih => cases r with | cons a b => simp [ih b]
theorem Rdk.isEmpty {ms : List (Key × MV)} {vs : List (Key × PV)} (r : Rdk N h ms vs) : ms.isEmpty = vs.isEmpty := by cases r <;> rfl
theorem Rdk.intKeys {ms : List (Key × MV)} {vs : List (Key × PV)} (r : Rdk N h ms vs) : Mn.intKeys ms = Mn.intKeys vs := by
  induction ms generalizing vs with
  | nil => cases r; rfl
  | cons m ms ih =>
    cases r with
    | @cons k m v _ vs a b => cases k <;> simp [Mn.intKeys, ih b]
theorem Rdk.getK {ms : List (Key × MV)} {vs : List (Key × PV)} (r : Rdk N h ms vs) (k : Key) : (∀ v, getKP k vs = some v → ∃ m, Mn.getK k ms = some m ∧ Rd N h m v) ∧ (getKP k vs = none → Mn.getK k ms = none) := by
  induction ms generalizing vs with
  | nil => cases r; simp [getKP, Mn.getK]
  | cons m ms ih =>
    cases r with
    | @cons k2 m2 v2 _ vs2 a b =>
      by_cases q : k2 = k
      · simp [getKP, Mn.getK, q, a]
      · have := ih b
        simp only [getKP, Mn.getK] at this ⊢
        simp only [List.find?_cons, q, decide_false]
        exact this
theorem Rdk.any {ms : List (Key × MV)} {vs : List (Key × PV)} (r : Rdk N h ms vs) (k : Key) : (ms.any fun kv => decide (kv.1 = k)) = vs.any fun kv => decide (kv.1 = k) := by
  induction ms generalizing vs with
  | nil => cases r; rfl
  | cons m ms ih => cases r with | cons a b => simp [ih b]
theorem Rdk.append {ms ns : List (Key × MV)} {vs ws : List (Key × PV)} (r : Rdk N h ms vs) (s : Rdk N h ns ws) : Rdk N h (ms ++ ns) (vs ++ ws) := by
  induction ms generalizing vs with
  | nil => cases r; exact s
  | cons m ms ih => cases r with | cons a b => exact .cons a (ih b)
theorem Rdk.putK {ms : List (Key × MV)} {vs : List (Key × PV)} (r : Rdk N h ms vs) (k : Key) {m : MV} {v : PV} (x : Rd N h m v) : Rdk N h (Mn.putK k m ms) (putKP k v vs) := by
  unfold Mn.putK putKP
  rw [r.any]
  split
  · have go : ∀ {ms : List (Key × MV)} {vs : List (Key × PV)}, Rdk N h ms vs → Rdk N h (ms.map fun kv => if kv.1 = k then (kv.1, m) else kv) (vs.map fun kv => if kv.1 = k then (kv.1, v) else kv) := by
      intro ms
      induction ms with
      | nil => intro vs r; cases r; exact .nil
      | cons m ms ih =>
        intro vs r
        cases r with
        | cons a b =>
          simp only [List.map_cons]
          split
          · exact .cons x (ih b)
          · exact .cons a (ih b)
    exact go r
  · exact r.append (.cons x .nil)
theorem keyOf_eq {m : MV} {v : PV} (r : Rd N h m v) : keyOf m = keyOfP v := by cases r <;> rfl
theorem Rds.pairUp : ∀ {ms : List MV} {vs : List PV}, Rds N h ms vs → (∀ ps, pairUpP vs = some ps → ∃ qs, Mn.pairUp ms = some qs ∧ Rdk N h qs ps)
  | _, _, .nil, ps, e => by simp [pairUpP] at e; subst e; exact ⟨[], rfl, .nil⟩
  | _, _, .cons a .nil, ps, e => by simp [pairUpP] at e
  | _, _, .cons a (.cons b r), ps, e => by
    simp only [pairUpP] at e
    split at e
    · rename_i k ps2 e1 e2
      cases e
      obtain ⟨qs, f1, f2⟩ := Rds.pairUp r ps2 e2
      refine ⟨_, ?_, .cons b f2⟩
      simp only [Mn.pairUp, keyOf_eq a, e1, f1]
    · cases e
theorem Rdk.fold {ps : List (Key × MV)} {qs : List (Key × PV)} (r : Rdk N h ps qs) {ms : List (Key × MV)} {vs : List (Key × PV)} (s : Rdk N h ms vs) : Rdk N h (ps.foldl (fun acc kv => Mn.putK kv.1 kv.2 acc) ms) (qs.foldl (fun acc kv => putKP kv.1 kv.2 acc) vs) := by
  induction ps generalizing qs ms vs with
  | nil => cases r; exact s
  | cons p ps ih => cases r with | cons a b => exact ih b (s.putK _ a)
/-! trees -/
mutual
theorem Rd.dV : ∀ {m : MV} {v : PV}, Rd N h m v → ∀ n, Mn.dV (snapR h n) m = dP v n
  | _, _, .non, n => rfl
  | _, _, .bl _, n => rfl
  | _, _, .int _, n => rfl
  | _, _, .str _, n => rfl
  | _, _, .tup r, n => by simp only [Mn.dV, dP, Rds.dVs r n]
  | _, _, .lst _ e r, n => by
    cases n with
    | zero => simp [Mn.dV, snapR, dP]
    | succ n => simp only [Mn.dV, snapR, e, dP, Rds.dVs r n]
  | _, _, .fro _ e r, n => by
    cases n with
    | zero => simp [Mn.dV, snapR, dP]
    | succ n => simp only [Mn.dV, snapR, e, dP, Rds.dVs r n]
  | _, _, .dct _ e r, n => by
    cases n with
    | zero => simp [Mn.dV, snapR, dP]
    | succ n => simp only [Mn.dV, snapR, e, dP]
theorem Rds.dVs : ∀ {m : List MV} {v : List PV}, Rds N h m v → ∀ n, Mn.dVs (snapR h n) m = dPs v n
  | _, _, .nil, n => rfl
  | _, _, @Rds.cons _ _ _ v _ vs a b, n => by
    simp only [Mn.dVs, dPs, Rd.dV a n, Rds.dVs b n]
    all_goals (cases dP v n <;> cases dPs vs n <;> rfl)
end
theorem Ct.dV {m : MV} {v : PV} (r : Ct N h m v) (n : Nat) : Mn.dV (snapR h n) m = dP v n := by
  cases r with
  | rd r => exact r.dV n
  | rt r =>
    cases n with
    | zero => cases r <;> simp [Mn.dV, snapR, dP]
    | succ n =>
      cases r with
      | lst e r => simp only [Mn.dV, snapR, e, dP, r.dVs n]
      | dct e r => simp only [Mn.dV, snapR, e, dP]
theorem Ct.snap {m : MV} {v : PV} (r : Ct N h m v) : Mn.snap h m = dP v 6 := r.dV 6
theorem Rd.flat {m : MV} {v : PV} (r : Rd N h m v) : flatM m = flatP v := by cases r <;> rfl
theorem Ct.flat {m : MV} {v : PV} (r : Ct N h m v) : flatM m = flatP v := by
  cases r with
  | rd r => exact r.flat
  | rt r => cases r <;> rfl
theorem Rds.flat {ms : List MV} {vs : List PV} (r : Rds N h ms vs) : ms.all flatM = vs.all flatP := by
  induction ms generalizing vs with
  | nil => cases r; rfl
  | cons m ms ih => cases r with | cons a b => simp [ih b, a.flat]
theorem flat_snap {m : MV} {v : PV} (r : Ct N h m v) (f : flatM m = true) : Mn.snap [] m = dP v 0 := by
  cases r with
  | rd r => cases r <;> first | rfl | simp [flatM] at f
  | rt r => simp [flatM] at f
theorem eqF_eq {m n : MV} {v w : PV} (r : Ct N h m v) (s : Ct N h n w) (f : flatM m = true) (g : flatM n = true) : eqF m n = eqFP v w := by
  unfold eqF eqFP
  rw [flat_snap r f, flat_snap s g]
  all_goals rfl
theorem Rds.anyF {n : MV} {w : PV} (s : Ct N h n w) (g : flatM n = true) : ∀ {ms : List MV} {vs : List PV}, Rds N h ms vs → ms.all flatM = true → (ms.any fun z => eqF z n) = vs.any fun z => eqFP z w := by
  intro ms
  induction ms with
  | nil => intro vs r f; cases r; rfl
  | cons m ms ih =>
    intro vs r f
    cases r with
    | cons a b =>
      simp only [List.all_cons, Bool.and_eq_true] at f
      simp only [List.any_cons, ih b f.2, eqF_eq (.rd a) s f.1 g]
end
end Mn

set_option maxHeartbeats 1000000
/-! Po: what the operators tell of trees, they tell of small values. -/
namespace Mn
open PySem L2
section
variable {N : Nat → Prop} {h : MH} {m n : MV} {v w : PV}
theorem Ct.non (r : Ct N h m .non) : m = .non := by cases r with | rd r => cases r; rfl | rt r => cases r
theorem Ct.bl {b : Bool} (r : Ct N h m (.bl b)) : m = .bl b := by cases r with | rd r => cases r; rfl | rt r => cases r
theorem Ct.int {b : Int} (r : Ct N h m (.int b)) : m = .int b := by cases r with | rd r => cases r; rfl | rt r => cases r
theorem Ct.str {b : Str} (r : Ct N h m (.str b)) : m = .str b := by cases r with | rd r => cases r; rfl | rt r => cases r
theorem Ct.tup {vs : List PV} (r : Ct N h m (.tup vs)) : ∃ ms, m = .tup ms ∧ Rds N h ms vs := by
  cases r with
  | rd r => cases r with | tup r => exact ⟨_, rfl, r⟩
  | rt r => cases r
theorem Ct.lst {vs : List PV} (r : Ct N h m (.lst vs)) : ∃ a ms, m = .ref a ∧ h[a]? = some (.lst ms) ∧ Rds N h ms vs := by
  cases r with
  | rd r => cases r with | lst _ e r => exact ⟨_, _, rfl, e, r⟩
  | rt r => cases r with | lst e r => exact ⟨_, _, rfl, e, r⟩
theorem Ct.fro {vs : List PV} (r : Ct N h m (.fro vs)) : ∃ a ms, m = .ref a ∧ h[a]? = some (.fro ms) ∧ Rds N h ms vs := by
  cases r with
  | rd r => cases r with | fro _ e r => exact ⟨_, _, rfl, e, r⟩
  | rt r => cases r
theorem Ct.dct {vs : List (Key × PV)} (r : Ct N h m (.dct vs)) : ∃ a ms, m = .ref a ∧ h[a]? = some (.dct ms) ∧ Rdk N h ms vs := by
  cases r with
  | rd r => cases r with | dct _ e r => exact ⟨_, _, rfl, e, r⟩
  | rt r => cases r with | dct e r => exact ⟨_, _, rfl, e, r⟩
theorem Ct.lsts {vs : List PV} (r : Ct N h m v) (e : lstsP v = some vs) : ∃ a ms, m = .ref a ∧ Mn.lsts h a = some ms ∧ Rds N h ms vs := by
  cases v <;> simp only [lstsP] at e <;> try (cases e; done)
  · cases e
    obtain ⟨a, ms, rfl, e, r⟩ := r.lst
    exact ⟨a, ms, rfl, by unfold Mn.lsts; rw [e], r⟩
  · cases e
    obtain ⟨a, ms, rfl, e, r⟩ := r.fro
    exact ⟨a, ms, rfl, by unfold Mn.lsts; rw [e], r⟩
theorem Ct.seqs {vs : List PV} (r : Ct N h m v) (e : seqsP v = some vs) : ∃ ms, Mn.seqs h m = some ms ∧ Rds N h ms vs := by
  cases v <;> simp only [seqsP] at e
  case tup xs => cases e; obtain ⟨ms, rfl, q⟩ := r.tup; exact ⟨ms, rfl, q⟩
  all_goals
    obtain ⟨a, ms, rfl, e2, r2⟩ := r.lsts e
    exact ⟨ms, e2, r2⟩
theorem Ct.truth (r : Ct N h m v) {b : Bool} (e : truthP v = some b) : Mn.truth h m = some b := by
  cases v <;> simp only [truthP] at e <;> try (cases e; done)
  · cases r.non; exact e
  · cases r.bl; exact e
  · cases r.int; exact e
  · cases r.str; exact e
  · obtain ⟨ms, rfl, q⟩ := r.tup; simp only [Mn.truth, q.isEmpty]; exact e
  · obtain ⟨a, ms, rfl, e2, r⟩ := r.lst; simp only [Mn.truth, e2, r.isEmpty]; exact e
  · obtain ⟨a, ms, rfl, e2, r⟩ := r.fro; simp only [Mn.truth, e2, r.isEmpty]; exact e
  · obtain ⟨a, ms, rfl, e2, r⟩ := r.dct; simp only [Mn.truth, e2, r.isEmpty]; exact e
def OpOk (N : Nat → Prop) (h : MH) (o : Opd) (r : R MV) : Prop := match o with
  | .val v => ∃ m, r = .ok m h ∧ Rd N h m v
  | .own (.lst vs) => ∃ ms, r = newO (.lst ms) h ∧ Rds N h ms vs
  | .own (.dct vs) => ∃ ms, r = newO (.dct ms) h ∧ Rdk N h ms vs
  | _ => False
theorem bin_ok {op : Operator} {o : Opd} (r : Ct N h m v) (s : Ct N h n w) (e : binP op v w = some o) : OpOk N h o (binM op m n h) := by
  unfold binP at e
  split at e
  case h_3 => obtain ⟨ms, rfl, q⟩ := r.tup; obtain ⟨ns, rfl, p⟩ := s.tup; split at e <;> cases e; exact ⟨_, by simp only [binM]; rw [if_pos (by rw [q.length, p.length]; assumption)], .tup (q.append p)⟩
  case h_4 => 
    obtain ⟨a, ms, rfl, e1, r⟩ := r.lst; obtain ⟨b, ns, rfl, e2, s⟩ := s.lst
    split at e <;> cases e
    exact ⟨_, by simp only [binM, e1, e2]; rw [if_pos (by rw [r.length, s.length]; assumption)], r.append s⟩
  case h_7 =>
    obtain ⟨a, ms, rfl, e1, r⟩ := r.lst; cases s.int
    split at e <;> cases e
    exact ⟨_, by simp only [binM, e1]; rw [if_pos (by rw [r.length]; assumption)], r.rep _⟩
  case h_8 =>
    obtain ⟨ms, rfl, q⟩ := r.tup; cases s.int
    split at e <;> cases e
    rename_i c
    exact ⟨_, by simp only [binM]; rw [if_pos (by rw [q.length]; refine ⟨c.1, c.2.1, c.2.2.1, fun z => c.2.2.2 ?_⟩; subst z; cases q; rfl)], .tup (q.rep _)⟩
  all_goals first
    | (cases r.int; cases s.int; first | (cases e; exact ⟨_, rfl, .int _⟩) | (split at e <;> cases e; exact ⟨_, by simp only [binM]; rw [if_pos (by assumption)], .int _⟩))
    | (cases r.str; cases s.str; split at e <;> cases e; exact ⟨_, by simp only [binM]; rw [if_pos (by assumption)], .str _⟩)
    | cases e
theorem Ct.strOf (r : Ct N h m v) : Mn.strOf m = strOfP v := by
  cases r with
  | rd r => cases r <;> rfl
  | rt r => cases r <;> rfl
theorem eq_ok (r : Ct N h m v) (s : Ct N h n w) : eqM h m n = eqP v w := by
  unfold eqM eqP eqD eqDP
  rw [r.strOf, s.strOf, r.snap, s.snap]
  all_goals (cases strOfP v <;> cases strOfP w <;> (try rfl) <;> (cases dP v 6 <;> cases dP w 6 <;> rfl))
theorem inL_ok {a : Nat} {ns : List MV} {ws : List PV} {b : Bool} (r : Ct N h m v) (e0 : Mn.lsts h a = some ns) (s : Rds N h ns ws) (e : inLP v ws = some b) :
    (if flatM m && ns.all flatM then some (ns.any fun z => eqF z m) else match snap h m, dVs (snapR h 5) ns with
        | some d, some ds => if shp d && shp (.list ds) then some (ds.any fun z => PyData.eqv z d) else none
        | _, _ => none) = some b := by
  unfold inLP at e
  rw [r.flat, s.flat]
  split at e
  · rename_i c
    rw [if_pos c]
    rw [Bool.and_eq_true] at c
    rw [s.anyF r (by rw [r.flat]; exact c.1) (by rw [s.flat]; exact c.2)]
    exact e
  · rename_i c
    rw [if_neg c, r.snap, s.dVs]
    revert e
    cases dP v 6 <;> cases dPs ws 5 <;> exact id
theorem in_ok {b : Bool} (r : Ct N h m v) (s : Ct N h n w) (e : inP v w = some b) : inM h m n = some b := by
  cases w <;> simp only [inP] at e
  case tup ws =>
    obtain ⟨ns, rfl, p⟩ := s.tup
    simp only [inM]
    split at e
    · rename_i c
      rw [Bool.and_eq_true] at c
      rw [r.flat, p.flat, c.1, c.2, p.anyF r (by rw [r.flat]; exact c.1) (by rw [p.flat]; exact c.2)]
      exact e
    · cases e
  case dct kvs =>
    obtain ⟨a, ks, rfl, e1, s⟩ := s.dct
    simp only [inM, e1]
    have hk : keyOf m = keyOfP v := by
      cases r with
      | rd r => exact keyOf_eq r
      | rt r => cases r <;> rfl
    rw [hk]
    cases q : keyOfP v with
    | none => rw [q] at e; cases e
    | some k =>
      rw [q] at e
      simp only [Option.map_some] at e ⊢
      rw [← e]
      congr 1
      obtain ⟨g1, g2⟩ := s.getK k
      cases z : getKP k kvs with
      | none => rw [g2 z]; rfl
      | some v => obtain ⟨m2, q1, _⟩ := g1 v z; rw [q1]; rfl
  case lst ws =>
    obtain ⟨a, ns, rfl, e1, s⟩ := s.lst
    have e0 : Mn.lsts h a = some ns := by unfold Mn.lsts; rw [e1]
    have := inL_ok r e0 s e
    simp only [inM, e1, e0]
    exact this
  case fro ws =>
    obtain ⟨a, ns, rfl, e1, s⟩ := s.fro
    have e0 : Mn.lsts h a = some ns := by unfold Mn.lsts; rw [e1]
    have := inL_ok r e0 s e
    simp only [inM, e1, e0]
    exact this
  case str z =>
    cases s.str
    cases v <;> simp only at e <;> try (cases e; done)
    cases r.str
    exact e
  all_goals cases e
theorem isNon_ok (r : Ct N h m v) : decide (m = .non) = isNon v := by
  cases r with
  | rd r => cases r <;> simp [isNon]
  | rt r => cases r <;> simp [isNon]
theorem cmp_ok {op : CmpOp} {b : Bool} (r : Ct N h m v) (s : Ct N h n w) (e : cmpP op v w = some b) : cmpM op m n h = some b := by
  cases op <;> simp only [cmpP] at e
  case Eq => simp only [cmpM, eq_ok r s]; exact e
  case NotEq => simp only [cmpM, eq_ok r s]; exact e
  case In => exact in_ok r s e
  case NotIn =>
    simp only [cmpM]
    cases q : inP v w with
    | none => rw [q] at e; cases e
    | some c => rw [in_ok r s q]; rw [q] at e; exact e
  case Is => split at e <;> cases e; cases s.non; simp only [cmpM, isNon_ok r]
  case IsNot => split at e <;> cases e; cases s.non; simp only [cmpM, isNon_ok r]
  all_goals
    split at e
    · cases r.int; cases s.int; exact e
    · cases e
theorem ix_ok {u : PV} (r : Ct N h m v) (s : Ct N h n w) (e : ixP v w = some u) : ∃ k, ixM m n h = .ok k h ∧ Rd N h k u := by
  have at_ok : ∀ {ms : List MV} {vs : List PV} {i : Int}, Rds N h ms vs → atI vs i = some u → ∃ k, atI ms i = some k ∧ Rd N h k u := by
    intro ms vs i q z
    unfold atI at z ⊢
    rw [q.length]
    cases y : ixN vs.length i with
    | none => rw [y] at z; cases z
    | some j => rw [y] at z; exact q.get z
  unfold ixP at e
  split at e
  · obtain ⟨ms, rfl, q⟩ := r.tup; cases s.int
    obtain ⟨k, e1, e2⟩ := at_ok q e
    exact ⟨k, by simp only [ixM, e1, ofO], e2⟩
  · obtain ⟨a, ms, rfl, e0, r⟩ := r.lst; cases s.int
    obtain ⟨k, e1, e2⟩ := at_ok r e
    exact ⟨k, by simp only [ixM, e0, Mn.lsts, e1, ofO], e2⟩
  · obtain ⟨a, ms, rfl, e0, r⟩ := r.fro; cases s.int
    obtain ⟨k, e1, e2⟩ := at_ok r e
    exact ⟨k, by simp only [ixM, e0, Mn.lsts, e1, ofO], e2⟩
  · obtain ⟨a, ks, rfl, e0, r⟩ := r.dct
    have hk : keyOf n = keyOfP w := by
      cases s with
      | rd s => exact keyOf_eq s
      | rt s => cases s <;> rfl
    cases q : keyOfP w with
    | none => rw [q] at e; cases e
    | some k =>
      rw [q] at e
      obtain ⟨k2, g1, g2⟩ := (r.getK k).1 _ e
      exact ⟨k2, by simp only [ixM, e0, hk, q, g1, ofO], g2⟩
  · cases r.str; cases s.int
    split at e
    · rename_i z i c
      cases q : atI z.cps.toList i with
      | none => rw [q] at e; cases e
      | some ch => rw [q] at e; cases e; exact ⟨_, by simp only [ixM, c, if_true, q, Option.map_some, ofO], .str _⟩
    · cases e
  · cases e
theorem sl_ok {lo hi : Option Int} {o : Opd} (r : Ct N h m v) (e : slP v lo hi = some o) : OpOk N h o (slM m lo hi h) := by
  unfold slP at e
  split at e
  · cases e; obtain ⟨ms, rfl, q⟩ := r.tup; exact ⟨_, rfl, .tup (q.cut lo hi)⟩
  · cases e; obtain ⟨a, ms, rfl, e0, r⟩ := r.lst; exact ⟨_, by simp only [slM, Mn.lsts, e0], r.cut lo hi⟩
  · cases e; obtain ⟨a, ms, rfl, e0, r⟩ := r.fro; exact ⟨_, by simp only [slM, Mn.lsts, e0], r.cut lo hi⟩
  · cases r.str
    split at e <;> cases e
    exact ⟨_, by simp only [slM]; rw [if_pos (by assumption)], .str _⟩
  · cases e
theorem rev_ok {o : Opd} (r : Ct N h m v) (e : revP v = some o) : OpOk N h o (revM m h) := by
  unfold revP at e
  split at e
  · cases e; obtain ⟨ms, rfl, q⟩ := r.tup; exact ⟨_, rfl, .tup q.reverse⟩
  · cases e; obtain ⟨a, ms, rfl, e0, r⟩ := r.lst; exact ⟨_, by simp only [revM, Mn.lsts, e0], r.reverse⟩
  · cases e; obtain ⟨a, ms, rfl, e0, r⟩ := r.fro; exact ⟨_, by simp only [revM, Mn.lsts, e0], r.reverse⟩
  · cases e
theorem isi_ok {t : Ty} {b : Bool} (r : Ct N h m v) (e : isiP v t = some b) : isiM m t h = some b := by
  cases v <;> simp only [isiP] at e <;> try (cases e; done)
  · cases r.non; exact e
  · cases r.bl; cases t <;> exact e
  · cases r.int; cases t <;> exact e
  · cases r.str; cases t <;> exact e
  · obtain ⟨ms, rfl, r⟩ := r.tup; cases t <;> exact e
  · obtain ⟨a, ms, rfl, e0, r⟩ := r.lst; simp only [isiM, e0]; exact e
  · obtain ⟨a, ms, rfl, e0, r⟩ := r.dct; simp only [isiM, e0]; exact e
inductive Cts (N : Nat → Prop) (h : MH) : List MV → List PV → Prop
  | nil : Cts N h [] []
  | cons {m : MV} {v : PV} {ms : List MV} {vs : List PV} : Ct N h m v → Cts N h ms vs → Cts N h (m :: ms) (v :: vs)
theorem Ct.num (r : Ct N h m v) {vs : List PV} (e : lstsP v = some vs) : ∃ a ms, m = .ref a ∧ Mn.lsts h a = some ms ∧ Mn.allInts ms = allIntsP vs ∧ Mn.allBls ms = allBlsP vs := by
  obtain ⟨a, ms, e1, e2, r⟩ := r.lsts e
  exact ⟨a, ms, e1, e2, r.allInts, r.allBls⟩
theorem blt_ok {b : Bi} {ms : List MV} {vs : List PV} {o : Opd} (r : Cts N h ms vs) (e : bltP b vs = some o) : OpOk N h o (bltM b ms h) := by
  have one : ∀ {v}, Cts N h ms [v] → ∃ m, ms = [m] ∧ Ct N h m v := fun {v} r => by cases r with | cons a b => cases b; exact ⟨_, rfl, a⟩
  have two : ∀ {v w}, Cts N h ms [v, w] → ∃ m n, ms = [m, n] ∧ Ct N h m v ∧ Ct N h n w := fun {v w} r => by cases r with | cons a b => cases b with | cons b c => cases c; exact ⟨_, _, rfl, a, b⟩
  have intsX : ∀ {v : PV} {α : Type} {g : List Int → α} {x : α}, ((lstsP v).bind allIntsP).map g = some x → ∀ {m}, Ct N h m v → ∃ a ns, m = .ref a ∧ (Mn.lsts h a).bind Mn.allInts = some ns ∧ x = g ns := by
    intro v α g x e m c
    cases q : lstsP v with
    | none => rw [q] at e; cases e
    | some xs =>
      rw [q] at e
      simp only [Option.bind_some] at e
      obtain ⟨a, ms, rfl, e2, e3, _⟩ := c.num q
      cases z : allIntsP xs with
      | none => rw [z] at e; cases e
      | some ns => rw [z] at e; cases e; exact ⟨a, ns, rfl, by rw [e2, Option.bind_some, e3, z], rfl⟩
  have bls : ∀ {v : PV} {α : Type} {g : List Bool → α} {x : α}, ((lstsP v).bind allBlsP).map g = some x → ∀ {m}, Ct N h m v → ∃ a ns, m = .ref a ∧ (Mn.lsts h a).bind Mn.allBls = some ns ∧ x = g ns := by
    intro v α g x e m c
    cases q : lstsP v with
    | none => rw [q] at e; cases e
    | some xs =>
      rw [q] at e
      simp only [Option.bind_some] at e
      obtain ⟨a, ms, rfl, e2, _, e3⟩ := c.num q
      cases z : allBlsP xs with
      | none => rw [z] at e; cases e
      | some ns => rw [z] at e; cases e; exact ⟨a, ns, rfl, by rw [e2, Option.bind_some, e3, z], rfl⟩
  unfold bltP at e
  split at e
  · obtain ⟨m, rfl, c⟩ := one r; cases c.str; split at e <;> cases e; exact ⟨_, by simp only [bltM]; rw [if_pos (by assumption)], .int _⟩
  · obtain ⟨m, rfl, c⟩ := one r; cases e; obtain ⟨ms, rfl, q⟩ := c.tup; exact ⟨_, by simp only [bltM, q.length], .int _⟩
  · obtain ⟨m, rfl, c⟩ := one r; cases e; obtain ⟨a, ms, rfl, e0, r⟩ := c.lst; exact ⟨_, by simp only [bltM, e0, r.length], .int _⟩
  · obtain ⟨m, rfl, c⟩ := one r; cases e; obtain ⟨a, ms, rfl, e0, r⟩ := c.fro; exact ⟨_, by simp only [bltM, e0, r.length], .int _⟩
  · obtain ⟨m, rfl, c⟩ := one r; cases e; obtain ⟨a, ms, rfl, e0, r⟩ := c.dct; exact ⟨_, by simp only [bltM, e0, r.length], .int _⟩
  · obtain ⟨m, rfl, c⟩ := one r; obtain ⟨a, ns, rfl, e0, rfl⟩ := intsX e c; exact ⟨_, by simp only [bltM, e0], .int _⟩
  · obtain ⟨m, rfl, c⟩ := one r; obtain ⟨a, ns, rfl, e0, rfl⟩ := bls e c; exact ⟨_, by simp only [bltM, e0], .bl _⟩
  · obtain ⟨m, rfl, c⟩ := one r; obtain ⟨a, ns, rfl, e0, rfl⟩ := bls e c; exact ⟨_, by simp only [bltM, e0], .bl _⟩
  · obtain ⟨m, rfl, c⟩ := one r
    rename_i v
    cases v <;> simp only [seqsP, lstsP, Option.map_some, Option.map_none] at e <;> cases e
    · obtain ⟨ms, rfl, q⟩ := c.tup; exact ⟨_, rfl, .tup q⟩
    · obtain ⟨a, ms, rfl, e0, r⟩ := c.lst; exact ⟨_, by simp only [bltM, Mn.lsts, e0], .tup r⟩
    · obtain ⟨a, ms, rfl, e0, r⟩ := c.fro; exact ⟨_, by simp only [bltM, Mn.lsts, e0], .tup r⟩
  · obtain ⟨m, rfl, c⟩ := one r
    rename_i v
    cases q : seqsP v with
    | none => rw [q] at e; cases e
    | some xs =>
      rw [q] at e; cases e
      obtain ⟨ms, e1, r⟩ := c.seqs q
      exact ⟨_, by simp only [bltM, e1], r⟩
  · obtain ⟨m, rfl, c⟩ := one r; cases c.int; cases e; exact ⟨_, rfl, .int _⟩
  · obtain ⟨m, rfl, c⟩ := one r; cases c.bl; cases e; exact ⟨_, rfl, .int _⟩
  · obtain ⟨m, rfl, c⟩ := one r; cases c.int; split at e <;> cases e; exact ⟨_, by simp only [bltM]; rw [if_pos (by assumption)], .str _⟩
  · obtain ⟨m, rfl, c⟩ := one r; cases c.str; cases e; exact ⟨_, rfl, .str _⟩
  · obtain ⟨m, rfl, c⟩ := one r
    rename_i v
    cases q : (dP v 6).bind reprD with
    | none => rw [q] at e; cases e
    | some s => rw [q] at e; cases e; exact ⟨_, by simp only [bltM, c.snap, q], .str _⟩
  · obtain ⟨m, rfl, c⟩ := one r; cases c.int; cases e; exact ⟨_, rfl, .int _⟩
  · obtain ⟨m, n, rfl, c, d⟩ := two r; cases c.int; cases d.int; cases e; exact ⟨_, rfl, .int _⟩
  · obtain ⟨m, n, rfl, c, d⟩ := two r; cases c.int; cases d.int; cases e; exact ⟨_, rfl, .int _⟩
  · obtain ⟨m, rfl, c⟩ := one r
    rename_i v
    split at e
    · rename_i n ns hq
      cases e
      cases q : seqsP v with
      | none => rw [q] at hq; cases hq
      | some xs =>
        rw [q] at hq
        obtain ⟨ms, e1, r⟩ := c.seqs q
        refine ⟨.int (PySem.W.maxOf n ns), ?_, .int _⟩
        have : (seqs h m).bind allInts = some (n :: ns) := by rw [e1]; exact r.allInts.trans hq
        simp only [bltM, this]
    · cases e
  · obtain ⟨m, rfl, c⟩ := one r
    rename_i v
    split at e
    · rename_i n ns hq
      cases e
      cases q : seqsP v with
      | none => rw [q] at hq; cases hq
      | some xs =>
        rw [q] at hq
        obtain ⟨ms, e1, r⟩ := c.seqs q
        refine ⟨.int (PySem.W.minOf n ns), ?_, .int _⟩
        have : (seqs h m).bind allInts = some (n :: ns) := by rw [e1]; exact r.allInts.trans hq
        simp only [bltM, this]
    · cases e
  · obtain ⟨m, rfl, c⟩ := one r
    obtain ⟨a, ks, rfl, e0, r⟩ := c.dct
    split at e
    · rename_i ns hk
      split at e
      · rename_i h64
        cases e
        have : intKeys ks = some ns := by rw [r.intKeys]; exact hk
        refine ⟨_, ?_, Rds.ints _⟩
        simp only [bltM, e0, this]
        rw [if_pos h64]
      · cases e
    · cases e
  · obtain ⟨m, rfl, c⟩ := one r
    rename_i v _
    cases hl : lstsP v with
    | none => rw [hl] at e; cases e
    | some xs =>
      obtain ⟨a, ms, rfl, e2, e3, _⟩ := c.num hl
      rw [hl] at e
      simp only [Option.bind_some] at e
      cases z : allIntsP xs with
      | none => rw [z] at e; cases e
      | some ns =>
        rw [z] at e; cases e
        have hb : (Mn.lsts h a).bind Mn.allInts = some ns := by rw [e2, Option.bind_some, e3, z]
        refine ⟨_, ?_, Rds.ints _⟩
        simp only [bltM, hb]
        split
        · rename_i kvs hd
          unfold Mn.lsts at e2; rw [hd] at e2; cases e2
        · rfl
  · cases e
theorem Ct.kd (r : Ct N h m v) {k : Kd} (e : kdP v = some k) : kdM h m = some k := by
  cases v <;> simp only [kdP] at e <;> try (cases e; done)
  · cases r.str; exact e
  · obtain ⟨ms, rfl, q⟩ := r.tup; exact e
  · obtain ⟨a, ms, rfl, e0, r⟩ := r.lst; simp only [kdM, e0]; exact e
  · obtain ⟨a, ms, rfl, e0, r⟩ := r.fro; simp only [kdM, e0]; exact e
  · obtain ⟨a, ms, rfl, e0, r⟩ := r.dct; simp only [kdM, e0]; exact e
theorem read_ok {k : Me} {kd : Kd} {ms : List MV} {vs : List PV} {o : Opd} (r : Ct N h m v) (hk : kdP v = some kd) (s : Rds N h ms vs) (e : readP k v vs = some o) : OpOk N h o (methM k kd m ms h) := by
  unfold readP at e
  split at e
  · rename_i kvs
    obtain ⟨a, ks, rfl, e0, r⟩ := r.dct
    simp only [kdP, Option.some.injEq] at hk
    subst hk
    split at e
    · cases s with
      | cons a1 b1 =>
        cases b1
        rename_i kv _
        cases q : keyOfP kv with
        | none => rw [q] at e; cases e
        | some k =>
          rw [q] at e; cases e
          obtain ⟨g1, g2⟩ := r.getK k
          have hk := (keyOf_eq a1).trans q
          refine ⟨(getK k ks).getD .non, by simp only [methM, e0, hk], ?_⟩
          cases z : getKP k kvs with
          | none => rw [g2 z]; exact .non
          | some u => obtain ⟨m2, q1, q2⟩ := g1 u z; rw [q1]; exact q2
    · cases s with
      | cons a1 b1 =>
        cases b1 with
        | cons a2 b2 =>
          cases b2
          rename_i kv dv _ _
          cases q : keyOfP kv with
          | none => rw [q] at e; cases e
          | some k =>
            rw [q] at e; cases e
            obtain ⟨g1, g2⟩ := r.getK k
            have hk := (keyOf_eq a1).trans q
            rename_i mv
            refine ⟨(getK k ks).getD mv, by simp only [methM, e0, hk], ?_⟩
            cases z : getKP k kvs with
            | none => rw [g2 z]; exact a2
            | some u => obtain ⟨m2, q1, q2⟩ := g1 u z; rw [q1]; exact q2
    · cases e
  · cases e
/-- a method that changes its list -/
theorem meth_ok {k : Me} {kd : Kd} {a : Nat} {ms : List MV} {vs : List PV} {y v' : PV} (r : Rt N h a v) (hk : kdP v = some kd) (s : Rds N h ms vs) (e : methP k v vs = some (y, v')) :
    ∃ my ns ws, v' = .lst ws ∧ methM k kd (.ref a) ms h = .ok my (h.set a (.lst ns)) ∧ Rd N h my y ∧ Rds N h ns ws := by
  unfold methP at e
  split at e
  · rename_i vxs
    cases r with
    | lst e0 r =>
      simp only [kdP, Option.some.injEq] at hk
      subst hk
      split at e
      · cases s with
        | cons a1 b1 =>
          cases b1
          split at e <;> cases e
          exact ⟨_, _, _, rfl, by simp only [methM, e0]; rw [if_pos (by rw [r.length]; assumption)], .non, r.append (.cons a1 .nil)⟩
      · cases s with
        | cons a1 b1 =>
          cases b1
          split at e <;> cases e
          cases a1 with
          | lst n1 e1 r1 => exact ⟨_, _, _, rfl, by simp only [methM, e0, e1]; rw [if_pos (by rw [r.length, r1.length]; assumption)], .non, r.append r1⟩
      · cases s
        cases q : vxs[vxs.length - 1]? with
        | none => rw [q] at e; cases e
        | some y =>
          rw [q] at e; cases e
          obtain ⟨m, e1, r1⟩ := r.get q
          exact ⟨m, _, _, rfl, by simp only [methM, e0, r.length, e1], r1, r.dropLast⟩
      · cases s with
        | cons a1 b1 =>
          cases b1
          cases a1
          split at e
          · rename_i i c
            cases q : vxs[i.toNat]? with
            | none => rw [q] at e; cases e
            | some y =>
              rw [q] at e; cases e
              obtain ⟨m, e1, r1⟩ := r.get q
              exact ⟨m, _, _, rfl, by simp only [methM, e0]; rw [if_pos c, e1], r1, r.eraseIdx _⟩
          · cases e
      · cases s with
        | cons a1 b1 =>
          cases b1 with
          | cons a2 b2 =>
            cases b2
            cases a1
            split at e <;> cases e
            exact ⟨_, _, _, rfl, by simp only [methM, e0]; rw [if_pos (by rw [r.length]; assumption)], .non, ((r.take _).append (.cons a2 .nil)).append (r.drop _)⟩
      · cases s; cases e; exact ⟨_, _, _, rfl, by simp only [methM, e0], .non, r.reverse⟩
      · cases s; cases e; exact ⟨_, _, _, rfl, by simp only [methM, e0], .non, .nil⟩
      · cases e
  · cases e
/-- x[i] = y -/
theorem set_ok {a : Nat} {i y : MV} {vi vy v' : PV} (r : Rt N h a v) (ri : Ct N h i vi) (ry : Rd N h y vy) (e : setV v vi vy = some v') :
    ∃ o, setM (.ref a) i y h = some (h.set a o) ∧ ((∃ ns ws, o = .lst ns ∧ v' = .lst ws ∧ Rds N h ns ws) ∨ ∃ ns ws, o = .dct ns ∧ v' = .dct ws ∧ Rdk N h ns ws) := by
  unfold setV at e
  split at e
  · rename_i vxs
    cases r with
    | lst e0 r =>
      split at e
      · cases ri.int
        rename_i i
        cases q : ixN vxs.length i with
        | none => rw [q] at e; cases e
        | some j =>
          rw [q] at e
          simp only [Option.bind_some] at e
          split at e <;> cases e
          rename_i c
          exact ⟨_, by simp only [setM, e0, r.length, q, Option.bind_some]; rw [if_pos c], .inl ⟨_, _, rfl, rfl, r.set ry _⟩⟩
      · cases e
  · cases r with
    | dct e0 r =>
      have hk : keyOf i = keyOfP vi := by
        cases ri with
        | rd s => exact keyOf_eq s
        | rt s => cases s <;> rfl
      cases q : keyOfP vi with
      | none => rw [q] at e; cases e
      | some k =>
        rw [q] at e
        simp only [Option.bind_some] at e
        split at e <;> cases e
        rename_i c
        exact ⟨_, by simp only [setM, e0, hk, q, Option.bind_some]; rw [if_pos (by rw [r.length]; exact c)], .inr ⟨_, _, rfl, rfl, r.putK k ry⟩⟩
  · cases e
theorem rng_ok {xs : List PV} (r : Ct N h m v) (s : Ct N h n w) (e : rngP v w = some xs) : ∃ ms, rngM m n = some ms ∧ Rds N h ms xs := by
  unfold rngP at e
  split at e
  · cases r.int; cases s.int
    split at e <;> cases e
    exact ⟨_, by simp only [rngM]; rw [if_pos (by assumption)], Rds.rng _ _⟩
  · cases e
end
end Mn

set_option autoImplicit false
set_option maxHeartbeats 1000000
/-! Ps: stores of trees over stores of places; steps; taking out, shutting, putting back. -/
namespace Mn
open PySem L2
def NN (Z : Nat → Prop) (r : Nat → Option Nat) : Nat → Prop := fun a => Z a ∨ ∃ i, r i = some a
inductive Hd (N : Nat → Prop) (h : MH) (c : Cls) (m : MV) (v : PV) (ra : Option Nat) : Prop
  | fz : ra = none → Rd N h m v → (c = .bf ∨ isLD v = false) → Hd N h c m v ra
  | rt (a : Nat) : ra = some a → m = .ref a → Rt N h a v → Hd N h c m v ra
  | lk : ra = none → v = .lck → Hd N h c m v ra
structure St (cl : Nat → Cls) (Z : Nat → Prop) (h : MH) (σ : PS) (μ : MS') (r : Nat → Option Nat) : Prop where
  len : σ.length = μ.length
  sh : ∀ i v, cl i = .sh → σ[i]? = some (some v) → ∃ m, μ[i]? = some (some m) ∧ Rd (NN Z r) h m v
  ow : ∀ i v, cl i ≠ .sh → σ[i]? = some (some v) → ∃ m, μ[i]? = some (some m) ∧ Hd (NN Z r) h (cl i) m v (r i)
  rt : ∀ i a, r i = some a → cl i ≠ .sh ∧ a < h.length ∧ ¬ Z a
  inj : ∀ i j a, r i = some a → r j = some a → i = j
  zb : ∀ a, Z a → a < h.length
structure Fr (Z : Nat → Prop) (h : MH) (σ : PS) (r : Nat → Option Nat) (Z' : Nat → Prop) (h' : MH) (σ' : PS) (r' : Nat → Option Nat) : Prop where
  zz : ∀ a, Z a → Z' a
  len : h.length ≤ h'.length
  same : ∀ a o, h[a]? = some o → (∀ i, r i ≠ some a) → h'[a]? = some o
  nn : ∀ a, NN Z' r' a → NN Z r a ∨ h.length ≤ a
  lk : ∀ i : Nat, σ[i]? = some (some PV.lck) → σ'[i]? = some (some PV.lck)
theorem get_lt {α : Type} {l : List α} {i : Nat} {x : α} (e : l[i]? = some x) : i < l.length := (List.getElem?_eq_some_iff.mp e).1
section
variable {cl : Nat → Cls} {Z Z' Z1 Z2 Z0 : Nat → Prop} {h h' h1 h2 : MH} {σ σ' σ1 σ2 : PS} {μ μ' : MS'} {r r' r1 r2 : Nat → Option Nat} {o o' : Opd} {m m' : MV} {v : PV}
theorem Fr.refl : Fr Z h σ r Z h σ r := ⟨fun _ z => z, Nat.le_refl _, fun _ _ e _ => e, fun _ z => .inl z, fun _ z => z⟩
theorem Fr.trans (S : St cl Z1 h1 σ1 μ r1) (a : Fr Z h σ r Z1 h1 σ1 r1) (b : Fr Z1 h1 σ1 r1 Z2 h2 σ2 r2) : Fr Z h σ r Z2 h2 σ2 r2 := by
  refine ⟨fun x z => b.zz x (a.zz x z), Nat.le_trans a.len b.len, fun x o e n => ?_, fun x z => ?_, fun i z => b.lk i (a.lk i z)⟩
  · refine b.same x o (a.same x o e n) fun i q => ?_
    have lt := get_lt e
    rcases a.nn x (.inr ⟨i, q⟩) with z | z
    · rcases z with z | ⟨j, z⟩
      · exact (S.rt i x q).2.2 (a.zz x z)
      · exact n j z
    · omega
  · rcases b.nn x z with q | q
    · exact a.nn x q
    · exact .inr (Nat.le_trans a.len q)
theorem Fr.rd (F : Fr Z h σ r Z' h' σ' r') (q : Rd (NN Z r) h m v) : Rd (NN Z' r') h' m v := q.mono fun a o n e => ⟨fun z => by
  rcases F.nn a z with z | z
  · exact n z
  · have := get_lt e; omega, F.same a o e fun i z => n (.inr ⟨i, z⟩)⟩
theorem Fr.q (F : Fr Z h σ r Z' h' σ' r') : ∀ a o, ¬ NN Z r a → h[a]? = some o → ¬ NN Z' r' a ∧ h'[a]? = some o := fun a o n e => ⟨fun z => by
  rcases F.nn a z with z | z
  · exact n z
  · have := get_lt e; omega, F.same a o e fun i z => n (.inr ⟨i, z⟩)⟩
theorem Fr.rt (F : Fr Z h σ r Z' h' σ' r') {t : Nat} (n : ∀ i, r i ≠ some t) (q : Rt (NN Z r) h t v) : Rt (NN Z' r') h' t v := by
  refine q.mono F.q ?_
  have lt := q.lt
  rw [List.getElem?_eq_getElem lt]
  exact F.same t _ (List.getElem?_eq_getElem lt) n
theorem NN.weak (q : ∀ a, Z a → Z' a) (a : Nat) (z : NN Z r a) : NN Z' r a := by
  rcases z with z | z
  · exact .inl (q a z)
  · exact .inr z
theorem Hd.mono {N N' : Nat → Prop} {c : Cls} {ra : Option Nat} (q : ∀ a o, ¬ N a → h[a]? = some o → ¬ N' a ∧ h'[a]? = some o) (e : ∀ t, ra = some t → h'[t]? = h[t]?) (x : Hd N h c m v ra) : Hd N' h' c m v ra := by
  cases x with
  | fz a b c => exact .fz a (b.mono q) c
  | rt t a b c => exact .rt t a b (c.mono q (e t a))
  | lk a b => exact .lk a b
theorem St.weak (S : St cl Z' h σ μ r) (q : ∀ a, Z a → Z' a) : St cl Z h σ μ r := by
  have w : ∀ a o, ¬ NN Z' r a → h[a]? = some o → ¬ NN Z r a ∧ h[a]? = some o := fun a o n e => ⟨fun z => n (NN.weak q a z), e⟩
  refine ⟨S.len, fun i v c e => ?_, fun i v c e => ?_, fun i a e => ⟨(S.rt i a e).1, (S.rt i a e).2.1, fun z => (S.rt i a e).2.2 (q a z)⟩, S.inj, fun a z => S.zb a (q a z)⟩
  · obtain ⟨m, e1, e2⟩ := S.sh i v c e
    exact ⟨m, e1, e2.mono w⟩
  · obtain ⟨m, e1, e2⟩ := S.ow i v c e
    exact ⟨m, e1, e2.mono w fun _ _ => rfl⟩
theorem Fr.weak (F : Fr Z h σ r Z' h' σ' r') (q1 : ∀ a, Z a → Z2 a) (q2 : ∀ a, Z2 a → Z' a) : Fr Z h σ r Z2 h' σ' r' := ⟨q1, F.len, F.same, fun a z => F.nn a (NN.weak q2 a z), F.lk⟩
/-- the heap grows by an object -/
theorem St.push (S : St cl Z h σ μ r) (ob : MO) : St cl (fun a => Z a ∨ a = h.length) (h ++ [ob]) σ μ r := by
  have w : ∀ a o, ¬ NN Z r a → h[a]? = some o → ¬ NN (fun a => Z a ∨ a = h.length) r a ∧ (h ++ [ob])[a]? = some o := fun a o n e => by
    have lt := get_lt e
    refine ⟨fun z => ?_, by rw [List.getElem?_append_left lt]; exact e⟩
    rcases z with (z | z) | z
    · exact n (.inl z)
    · omega
    · exact n (.inr z)
  refine ⟨S.len, fun i v c e => ?_, fun i v c e => ?_, fun i a e => ⟨(S.rt i a e).1, ?_, fun z => ?_⟩, S.inj, fun a z => ?_⟩
  · obtain ⟨m, e1, e2⟩ := S.sh i v c e
    exact ⟨m, e1, e2.mono w⟩
  · obtain ⟨m, e1, e2⟩ := S.ow i v c e
    exact ⟨m, e1, e2.mono w fun t z => by rw [List.getElem?_append_left (S.rt i t z).2.1]⟩
  · have := (S.rt i a e).2.1; simp; omega
  · rcases z with z | z
    · exact (S.rt i a e).2.2 z
    · have := (S.rt i a e).2.1; omega
  · rcases z with z | z
    · have := S.zb a z; simp; omega
    · simp; omega
theorem Fr.push {ob : MO} : Fr Z h σ r (fun a => Z a ∨ a = h.length) (h ++ [ob]) σ r :=
  ⟨fun a z => .inl z, by simp, fun a o e _ => by rw [List.getElem?_append_left (get_lt e)]; exact e, fun a z => by
    rcases z with (z | z) | z
    · exact .inl (.inl z)
    · exact .inr (by omega)
    · exact .inl (.inr z), fun _ z => z⟩
/-! ### what an expression comes to -/
def TO (cl : Nat → Cls) (Z Z' : Nat → Prop) (h : MH) (μ : MS') (r : Nat → Option Nat) (o : Opd) (m : MV) : Prop := match o with
  | .val v => Rd (NN Z' r) h m v
  | .own v => ∃ t, m = .ref t ∧ Z' t ∧ ¬ Z t ∧ Rt (NN Z' r) h t v
  | .bor i => cl i ≠ .sh ∧ μ[i]? = some (some m)
theorem TO.step (S : St cl Z1 h1 σ1 μ r1) (x : TO cl Z Z1 h1 μ r1 o m) (F : Fr Z1 h1 σ1 r1 Z2 h2 σ2 r2) : TO cl Z Z2 h2 μ r2 o m := by
  cases o with
  | val v => exact F.rd x
  | own v => obtain ⟨t, e, a, b, c⟩ := x; exact ⟨t, e, F.zz t a, b, F.rt (fun i z => (S.rt i t z).2.2 a) c⟩
  | bor i => exact x
theorem rdV_eq {i : Nat} (e : rdV σ i = some v) : σ[i]? = some (some v) ∧ isLk v = false := by
  unfold rdV at e
  split at e
  · split at e
    · cases e
    · cases e; rename_i a b; exact ⟨a, by simpa using b⟩
  · cases e
theorem TO.ct (S : St cl Z' h σ μ r) (z : ∀ a, Z a → Z' a) (x : TO cl Z Z' h μ r o m) (e : lookO σ o = some v) : Ct (NN Z r) h m v := by
  cases o with
  | val u => cases e; exact .rd (Rd.weak (NN.weak z) x)
  | own u => cases e; obtain ⟨t, rfl, _, _, c⟩ := x; exact .rt (c.weak (NN.weak z))
  | bor i =>
    obtain ⟨e1, e2⟩ := rdV_eq e
    obtain ⟨m', e3, hd⟩ := S.ow i v x.1 e1
    rw [x.2] at e3
    cases e3
    cases hd with
    | fz _ q _ => exact .rd (q.weak (NN.weak z))
    | rt a _ e4 q => subst e4; exact .rt (q.weak (NN.weak z))
    | lk _ q => subst q; cases e2
def Opd.isB : Opd → Bool
  | .bor _ => true
  | _ => false
theorem TO.frz (S : St cl Z' h σ μ r) (z : ∀ a, Z a → Z' a) (x : TO cl Z Z' h μ r o m) (e : o.isB = false) : Rd (NN Z r) h m o.v := by
  cases o with
  | val u => exact Rd.weak (NN.weak z) x
  | own u =>
    obtain ⟨t, rfl, a, b, c⟩ := x
    refine (c.weak (NN.weak z)).frz fun n => ?_
    rcases n with n | ⟨i, n⟩
    · exact b n
    · exact (S.rt i t n).2.2 a
  | bor i => cases e
/-! ### a slot is given a value -/
def updR (r : Nat → Option Nat) (i : Nat) (ra : Option Nat) : Nat → Option Nat := fun j => if j = i then ra else r j
theorem updR_same {i : Nat} {ra : Option Nat} : updR r i ra i = ra := if_pos rfl
theorem updR_ne {i j : Nat} {ra : Option Nat} (n : j ≠ i) : updR r i ra j = r j := if_neg n
theorem NN.upd {i : Nat} {ra : Option Nat} (z : ∀ a, Z a → Z' a) (q : ∀ t, ra = some t → Z' t ∨ r i = some t) (a : Nat) (x : NN Z (updR r i ra) a) : NN Z' r a := by
  rcases x with x | ⟨j, x⟩
  · exact .inl (z a x)
  · by_cases e : j = i
    · subst e
      rw [updR_same] at x
      rcases q a x with y | y
      · exact .inl y
      · exact .inr ⟨_, y⟩
    · rw [updR_ne e] at x
      exact .inr ⟨j, x⟩
/-- slot i holds v, at m, its root ra -/
theorem St.put (S : St cl Z' h σ μ r) {i : Nat} {ra : Option Nat} {w : Option PV} (z : ∀ a, Z a → Z' a) (hl : μ'.length = μ.length) (hm : ∀ j, j ≠ i → μ'[j]? = μ[j]?)
    (hv : ∀ v, w = some v → i < μ.length → ∃ m, μ'[i]? = some (some m) ∧ (cl i = .sh → Rd (NN Z (updR r i ra)) h m v) ∧ (cl i ≠ .sh → Hd (NN Z (updR r i ra)) h (cl i) m v ra))
    (hr : ∀ t, ra = some t → cl i ≠ .sh ∧ t < h.length ∧ ¬ Z t ∧ (Z' t ∨ r i = some t)) : St cl Z h (σ.set i w) μ' (updR r i ra) := by
  have up := NN.upd (r := r) (i := i) (ra := ra) z fun t e => (hr t e).2.2.2
  have wk : ∀ a o, ¬ NN Z' r a → h[a]? = some o → ¬ NN Z (updR r i ra) a ∧ h[a]? = some o := fun a o n e => ⟨fun q => n (up a q), e⟩
  have slot : ∀ j v, (σ.set i w)[j]? = some (some v) → (j = i ∧ w = some v ∧ i < μ.length) ∨ (j ≠ i ∧ σ[j]? = some (some v)) := fun j v e => by
    by_cases c : j = i
    · subst c
      by_cases lt : j < σ.length
      · rw [List.getElem?_set_self lt] at e
        exact .inl ⟨rfl, by simpa using e, by rw [← S.len]; exact lt⟩
      · rw [List.getElem?_eq_none (by simpa using lt)] at e; cases e
    · rw [List.getElem?_set_ne (fun q => c q.symm)] at e
      exact .inr ⟨c, e⟩
  refine ⟨by rw [List.length_set, hl, S.len], fun j v c e => ?_, fun j v c e => ?_, fun j a e => ?_, fun j k a e1 e2 => ?_, fun a q => S.zb a (z a q)⟩
  · rcases slot j v e with ⟨rfl, e1, lt⟩ | ⟨n, e1⟩
    · obtain ⟨m, e2, e3, _⟩ := hv v e1 lt
      exact ⟨m, e2, e3 c⟩
    · obtain ⟨m, e2, e3⟩ := S.sh j v c e1
      exact ⟨m, by rw [hm j n]; exact e2, e3.mono wk⟩
  · rcases slot j v e with ⟨rfl, e1, lt⟩ | ⟨n, e1⟩
    · obtain ⟨m, e2, _, e3⟩ := hv v e1 lt
      exact ⟨m, e2, by rw [updR_same]; exact e3 c⟩
    · obtain ⟨m, e2, e3⟩ := S.ow j v c e1
      exact ⟨m, by rw [hm j n]; exact e2, by rw [updR_ne n]; exact e3.mono wk fun _ _ => rfl⟩
  · by_cases c : j = i
    · subst c
      rw [updR_same] at e
      obtain ⟨a1, a2, a3, _⟩ := hr a e
      exact ⟨a1, a2, a3⟩
    · rw [updR_ne c] at e
      have := S.rt j a e
      exact ⟨this.1, this.2.1, fun q => this.2.2 (z a q)⟩
  · have clash : ∀ j, j ≠ i → r j = some a → ra = some a → False := fun j n e1 e2 => by
      rcases (hr a e2).2.2.2 with q | q
      · exact (S.rt j a e1).2.2 q
      · exact n (S.inj j i a e1 q)
    by_cases c : j = i
    · by_cases d : k = i
      · rw [c, d]
      · exfalso
        rw [c, updR_same] at e1
        rw [updR_ne d] at e2
        exact clash k d e2 e1
    · by_cases d : k = i
      · exfalso
        rw [d, updR_same] at e2
        rw [updR_ne c] at e1
        exact clash j c e1 e2
      · rw [updR_ne c] at e1
        rw [updR_ne d] at e2
        exact S.inj j k a e1 e2
theorem set_lk {i : Nat} {w : Option PV} (n : σ[i]? ≠ some (some PV.lck) ∨ w = some PV.lck) : ∀ j : Nat, σ[j]? = some (some PV.lck) → (σ.set i w)[j]? = some (some PV.lck) := by
  intro j e
  by_cases c : j = i
  · subst c
    rcases n with n | n
    · exact absurd e n
    · rw [List.getElem?_set_self (get_lt e), n]
  · rw [List.getElem?_set_ne (fun q => c q.symm)]; exact e
theorem rdV_nlk {i : Nat} (e : rdV σ i = some v) : σ[i]? ≠ some (some PV.lck) := fun z => by
  obtain ⟨e1, e2⟩ := rdV_eq e
  rw [z] at e1; cases e1; cases e2
/-! ### taking out -/
theorem force_ok (S : St cl Z' h σ μ r) (z : ∀ a, Z a → Z' a) (x : TO cl Z Z' h μ r o m) (e : force cl o σ = some (o', σ')) :
    ∃ r2 Z2, St cl Z2 h σ' μ r2 ∧ Fr Z' h σ r Z2 h σ' r2 ∧ TO cl Z Z2 h μ r2 o' m ∧ o'.isB = false := by
  cases o with
  | val u => cases e; exact ⟨r, Z', S, .refl, x, rfl⟩
  | own u => cases e; exact ⟨r, Z', S, .refl, x, rfl⟩
  | bor i =>
    simp only [force] at e
    split at e
    · rename_i hc
      cases q : rdV σ i with
      | none => rw [q] at e; cases e
      | some v =>
        rw [q] at e
        simp only [Option.map_some, Option.some.injEq, Prod.mk.injEq] at e
        obtain ⟨e1, rfl⟩ := e
        obtain ⟨e2, e3⟩ := rdV_eq q
        obtain ⟨m', e4, hd⟩ := S.ow i v x.1 e2
        rw [x.2] at e4
        cases e4
        cases hd with
        | fz rn q1 q2 =>
          have ld : isLD v = false := by rcases q2 with q2 | q2; · rw [hc] at q2; cases q2
                                         · exact q2
          rw [ld] at e1
          subst e1
          have S2 := S.put (Z := Z') (i := i) (ra := none) (w := none) (fun _ z => z) rfl (fun _ _ => rfl) (fun v e => by cases e) (fun t e => by cases e)
          refine ⟨_, Z', S2, ⟨fun _ z => z, Nat.le_refl _, fun _ _ e _ => e, fun a y => .inl (NN.upd (fun _ z => z) (fun t e => by cases e) a y), set_lk (.inl (rdV_nlk q))⟩, ?_, rfl⟩
          exact Rd.weak (fun a y => NN.upd (fun _ z => z) (fun t e => by cases e) a y) q1
        | rt t rn q1 q2 =>
          rw [q2.ld] at e1
          subst e1 q1
          have hz : ¬ Z' t := (S.rt i t rn).2.2
          have lt : t < h.length := (S.rt i t rn).2.1
          have up : ∀ a, NN (fun a => Z' a ∨ a = t) (updR r i none) a → NN Z' r a := fun a y => by
            rcases y with (y | y) | ⟨j, y⟩
            · exact .inl y
            · subst y; exact .inr ⟨i, rn⟩
            · by_cases c : j = i
              · subst c; rw [updR_same] at y; cases y
              · rw [updR_ne c] at y; exact .inr ⟨j, y⟩
          have wk : ∀ a o, ¬ NN Z' r a → h[a]? = some o → ¬ NN (fun a => Z' a ∨ a = t) (updR r i none) a ∧ h[a]? = some o := fun a o n e => ⟨fun q => n (up a q), e⟩
          have S2 : St cl (fun a => Z' a ∨ a = t) h (σ.set i none) μ (updR r i none) := by
            have slot : ∀ j v, (σ.set i none)[j]? = some (some v) → j ≠ i ∧ σ[j]? = some (some v) := fun j v e => by
              by_cases c : j = i
              · subst c
                rw [List.getElem?_set_self (get_lt e2)] at e; cases e
              · rw [List.getElem?_set_ne (fun q => c q.symm)] at e
                exact ⟨c, e⟩
            refine ⟨by rw [List.length_set]; exact S.len, fun j v c e => ?_, fun j v c e => ?_, fun j a e => ?_, fun j k a f1 f2 => ?_, fun a y => ?_⟩
            · obtain ⟨n, e⟩ := slot j v e
              obtain ⟨m, f1, f2⟩ := S.sh j v c e
              exact ⟨m, f1, f2.mono wk⟩
            · obtain ⟨n, e⟩ := slot j v e
              obtain ⟨m, f1, f2⟩ := S.ow j v c e
              exact ⟨m, f1, by rw [updR_ne n]; exact f2.mono wk fun _ _ => rfl⟩
            · by_cases c : j = i
              · subst c; rw [updR_same] at e; cases e
              · rw [updR_ne c] at e
                refine ⟨(S.rt j a e).1, (S.rt j a e).2.1, fun y => ?_⟩
                rcases y with y | rfl
                · exact (S.rt j a e).2.2 y
                · exact c (S.inj j i _ e rn)
            · by_cases c : j = i
              · subst c; rw [updR_same] at f1; cases f1
              · by_cases d : k = i
                · subst d; rw [updR_same] at f2; cases f2
                · rw [updR_ne c] at f1; rw [updR_ne d] at f2; exact S.inj j k a f1 f2
            · rcases y with y | rfl
              · exact S.zb a y
              · exact lt
          refine ⟨_, _, S2, ⟨fun _ z => .inl z, Nat.le_refl _, fun _ _ e _ => e, fun a y => .inl (up a y), set_lk (.inl (rdV_nlk q))⟩, ?_, rfl⟩
          exact ⟨t, rfl, .inr rfl, fun y => hz (z t y), q2.weak up⟩
        | lk _ q2 => subst q2; cases e3
    · cases e
inductive TOs (cl : Nat → Cls) (Z Z' : Nat → Prop) (h : MH) (μ : MS') (r : Nat → Option Nat) : List Opd → List MV → Prop
  | nil : TOs cl Z Z' h μ r [] []
  | cons {o : Opd} {m : MV} {os : List Opd} {ms : List MV} : TO cl Z Z' h μ r o m → TOs cl Z Z' h μ r os ms → TOs cl Z Z' h μ r (o :: os) (m :: ms)
theorem TOs.step (S : St cl Z1 h1 σ1 μ r1) (F : Fr Z1 h1 σ1 r1 Z2 h2 σ2 r2) {os : List Opd} {ms : List MV} (x : TOs cl Z Z1 h1 μ r1 os ms) : TOs cl Z Z2 h2 μ r2 os ms := by
  induction x with
  | nil => exact .nil
  | cons a _ ih => exact .cons (a.step S F) ih
theorem forces_ok {os : List Opd} {ms : List MV} {vs : List PV} (S : St cl Z' h σ μ r) (z : ∀ a, Z a → Z' a) (x : TOs cl Z Z' h μ r os ms) (e : forces cl os σ = some (vs, σ')) :
    ∃ r2 Z2, St cl Z2 h σ' μ r2 ∧ Fr Z' h σ r Z2 h σ' r2 ∧ Rds (NN Z r2) h ms vs := by
  induction os generalizing σ Z' r ms vs with
  | nil => cases x; cases e; exact ⟨r, Z', S, .refl, .nil⟩
  | cons o os ih =>
    cases x with
    | cons a b =>
      simp only [forces] at e
      split at e
      · rename_i o1 s1 e1
        split at e
        · rename_i vs2 s2 e2
          cases e
          obtain ⟨r1, Z1, S1, F1, T1, nb⟩ := force_ok S z a e1
          obtain ⟨r2, Z2, S2, F2, R2⟩ := ih S1 (fun a q => F1.zz a (z a q)) (b.step S F1) e2
          refine ⟨r2, Z2, S2, F1.trans S1 F2, .cons ?_ R2⟩
          exact (T1.step S1 F2).frz S2 (fun a q => F2.zz a (F1.zz a (z a q))) nb
        · cases e
      · cases e
theorem looks_ok {os : List Opd} {ms : List MV} {vs : List PV} (S : St cl Z' h σ μ r) (z : ∀ a, Z a → Z' a) (x : TOs cl Z Z' h μ r os ms) (e : looks σ os = some vs) : Cts (NN Z r) h ms vs := by
  induction os generalizing ms vs with
  | nil => cases x; cases e; exact .nil
  | cons o os ih =>
    cases x with
    | cons a b =>
      simp only [looks] at e
      split at e
      · rename_i e1 e2
        cases e
        exact .cons (a.ct S z e1) (ih b e2)
      · cases e
/-! ### shutting and opening -/
/-- what a loop walks stays as it is -/
def Src (Z : Nat → Prop) (h : MH) (r : Nat → Option Nat) (m : MV) (v : PV) : Prop := Rd (NN Z r) h m v ∨ ∃ t, m = .ref t ∧ Z t ∧ Rt (NN Z r) h t v
theorem Src.step (S : St cl Z1 h1 σ1 μ r1) (F : Fr Z1 h1 σ1 r1 Z2 h2 σ2 r2) (x : Src Z1 h1 r1 m v) : Src Z2 h2 r2 m v := by
  rcases x with x | ⟨t, e, a, x⟩
  · exact .inl (F.rd x)
  · exact .inr ⟨t, e, F.zz t a, F.rt (fun i z => (S.rt i t z).2.2 a) x⟩
theorem Src.ct (x : Src Z h r m v) : Ct (NN Z r) h m v := by
  rcases x with x | ⟨t, rfl, a, x⟩
  · exact .rd x
  · exact .rt x
/-- how an operand is put back -/
def Lki (cl : Nat → Cls) (Zt : Nat → Prop) (o : Opd) (m : MV) (v : PV) (Z : Nat → Prop) (h : MH) (μ : MS') (r : Nat → Option Nat) : Prop := match o with
  | .bor i => cl i ≠ .sh ∧ μ[i]? = some (some m) ∧ ((∃ t, m = .ref t ∧ Z t ∧ ¬ Zt t ∧ Rt (NN Z r) h t v) ∨ (Rd (NN Z r) h m v ∧ (cl i = .bf ∨ isLD v = false)))
  | _ => True
theorem Lki.step {Zt : Nat → Prop} (S : St cl Z1 h1 σ1 μ r1) (F : Fr Z1 h1 σ1 r1 Z2 h2 σ2 r2) (hm : ∀ i, o = .bor i → μ'[i]? = μ[i]?) (x : Lki cl Zt o m v Z1 h1 μ r1) : Lki cl Zt o m v Z2 h2 μ' r2 := by
  cases o with
  | val _ => trivial
  | own _ => trivial
  | bor i =>
    obtain ⟨a, b, c⟩ := x
    refine ⟨a, by rw [hm i rfl]; exact b, ?_⟩
    rcases c with ⟨t, e1, e2, e3, e4⟩ | ⟨e1, e2⟩
    · exact .inl ⟨t, e1, F.zz t e2, e3, F.rt (fun i z => (S.rt i t z).2.2 e2) e4⟩
    · exact .inr ⟨F.rd e1, e2⟩
theorem lock_ok (S : St cl Z' h σ μ r) (z : ∀ a, Z a → Z' a) (x : TO cl Z Z' h μ r o m) (e : lockO o σ = some (v, σ')) :
    ∃ r2 Z2, St cl Z2 h σ' μ r2 ∧ Fr Z' h σ r Z2 h σ' r2 ∧ Src Z2 h r2 m v ∧ Lki cl Z' o m v Z2 h μ r2 ∧ (∀ i, o = .bor i → σ'[i]? = some (some PV.lck) ∧ σ[i]? ≠ some (some PV.lck)) := by
  cases o with
  | val u => cases e; exact ⟨r, Z', S, .refl, .inl x, trivial, fun i z => by cases z⟩
  | own u => cases e; obtain ⟨t, e1, e2, e3, e4⟩ := x; exact ⟨r, Z', S, .refl, .inr ⟨t, e1, e2, e4⟩, trivial, fun i z => by cases z⟩
  | bor i =>
    simp only [lockO] at e
    cases q : rdV σ i with
    | none => rw [q] at e; cases e
    | some w =>
      rw [q] at e
      cases e
      obtain ⟨e2, e3⟩ := rdV_eq q
      obtain ⟨m', e4, hd⟩ := S.ow i v x.1 e2
      rw [x.2] at e4
      cases e4
      have lt0 := get_lt e2
      have li : ∀ j, (Opd.bor i) = .bor j → (σ.set i (some PV.lck))[j]? = some (some PV.lck) ∧ σ[j]? ≠ some (some PV.lck) := fun j ej => by
        cases ej
        exact ⟨List.getElem?_set_self lt0, rdV_nlk q⟩
      cases hd with
      | fz rn q1 q2 =>
        have S2 := S.put (Z := Z') (i := i) (ra := none) (w := some PV.lck) (μ' := μ) (fun _ z => z) rfl (fun _ _ => rfl) (fun v e _ => ⟨m, x.2, fun c => absurd c x.1, fun _ => .lk rfl (by cases e; rfl)⟩) (fun t e => by cases e)
        have up : ∀ a, NN Z' (updR r i none) a → NN Z' r a := fun a y => NN.upd (fun _ z => z) (fun t e => by cases e) a y
        exact ⟨_, Z', S2, ⟨fun _ z => z, Nat.le_refl _, fun _ _ e _ => e, fun a y => .inl (up a y), set_lk (.inr rfl)⟩, .inl (q1.weak up), ⟨x.1, x.2, .inr ⟨q1.weak up, q2⟩⟩, li⟩
      | rt t rn q1 q2 =>
        subst q1
        have hz : ¬ Z' t := (S.rt i t rn).2.2
        have lt : t < h.length := (S.rt i t rn).2.1
        have up : ∀ a, NN (fun a => Z' a ∨ a = t) (updR r i none) a → NN Z' r a := fun a y => by
          rcases y with (y | y) | ⟨j, y⟩
          · exact .inl y
          · subst y; exact .inr ⟨i, rn⟩
          · by_cases c : j = i
            · subst c; rw [updR_same] at y; cases y
            · rw [updR_ne c] at y; exact .inr ⟨j, y⟩
        have wk : ∀ a o, ¬ NN Z' r a → h[a]? = some o → ¬ NN (fun a => Z' a ∨ a = t) (updR r i none) a ∧ h[a]? = some o := fun a o n e => ⟨fun q => n (up a q), e⟩
        have S2 : St cl (fun a => Z' a ∨ a = t) h (σ.set i (some PV.lck)) μ (updR r i none) := by
          have slot : ∀ j v, (σ.set i (some PV.lck))[j]? = some (some v) → (j = i ∧ v = .lck) ∨ (j ≠ i ∧ σ[j]? = some (some v)) := fun j v e => by
            by_cases c : j = i
            · subst c
              rw [List.getElem?_set_self (get_lt e2)] at e; cases e; exact .inl ⟨rfl, rfl⟩
            · rw [List.getElem?_set_ne (fun q => c q.symm)] at e
              exact .inr ⟨c, e⟩
          refine ⟨by rw [List.length_set]; exact S.len, fun j v c e => ?_, fun j v c e => ?_, fun j a e => ?_, fun j k a f1 f2 => ?_, fun a y => ?_⟩
          · rcases slot j v e with ⟨rfl, _⟩ | ⟨n, e⟩
            · exact absurd c x.1
            · obtain ⟨m, f1, f2⟩ := S.sh j v c e
              exact ⟨m, f1, f2.mono wk⟩
          · rcases slot j v e with ⟨rfl, rfl⟩ | ⟨n, e⟩
            · exact ⟨_, x.2, .lk updR_same rfl⟩
            · obtain ⟨m, f1, f2⟩ := S.ow j v c e
              exact ⟨m, f1, by rw [updR_ne n]; exact f2.mono wk fun _ _ => rfl⟩
          · by_cases c : j = i
            · subst c; rw [updR_same] at e; cases e
            · rw [updR_ne c] at e
              refine ⟨(S.rt j a e).1, (S.rt j a e).2.1, fun y => ?_⟩
              rcases y with y | rfl
              · exact (S.rt j a e).2.2 y
              · exact c (S.inj j i _ e rn)
          · by_cases c : j = i
            · subst c; rw [updR_same] at f1; cases f1
            · by_cases d : k = i
              · subst d; rw [updR_same] at f2; cases f2
              · rw [updR_ne c] at f1; rw [updR_ne d] at f2; exact S.inj j k a f1 f2
          · rcases y with y | rfl
            · exact S.zb a y
            · exact lt
        exact ⟨_, _, S2, ⟨fun _ z => .inl z, Nat.le_refl _, fun _ _ e _ => e, fun a y => .inl (up a y), set_lk (.inr rfl)⟩, .inr ⟨t, rfl, .inr rfl, q2.weak up⟩, ⟨x.1, x.2, .inl ⟨t, rfl, .inr rfl, hz, q2.weak up⟩⟩, li⟩
      | lk _ q2 => subst q2; cases e3
theorem unlock_ok {Zt : Nat → Prop} (S : St cl Z h σ μ r) (z : ∀ a, Zt a → Z a) (x : Lki cl Zt o m v Z h μ r) :
    ∃ r2, St cl Zt h (unlockO o v σ) μ r2 ∧ (∀ a, NN Zt r2 a → NN Z r a) := by
  cases o with
  | val _ => exact ⟨r, S.weak z, NN.weak z⟩
  | own _ => exact ⟨r, S.weak z, NN.weak z⟩
  | bor i =>
    obtain ⟨a, b, c⟩ := x
    rcases c with ⟨t, rfl, e2, e3, e4⟩ | ⟨e1, e2⟩
    · have up : ∀ a, NN Zt (updR r i (some t)) a → NN Z r a := fun a y => NN.upd z (fun t' e => by cases e; exact .inl e2) a y
      exact ⟨_, S.put (i := i) (ra := some t) (w := some v) z rfl (fun _ _ => rfl) (fun v' e _ => by cases e; exact ⟨_, b, fun c => absurd c a, fun _ => .rt t rfl rfl (e4.weak up)⟩) (fun t' e => by cases e; exact ⟨a, e4.lt, e3, .inl e2⟩), up⟩
    · have up : ∀ a, NN Zt (updR r i none) a → NN Z r a := fun a y => NN.upd z (fun t' e => by cases e) a y
      exact ⟨_, S.put (i := i) (ra := none) (w := some v) z rfl (fun _ _ => rfl) (fun v' e _ => by cases e; exact ⟨_, b, fun c => absurd c a, fun _ => .fz rfl (e1.weak up) e2⟩) (fun t' e => by cases e), up⟩
/-! ### a root's object changes -/
theorem St.mut (S : St cl Z h σ μ r) {i t : Nat} {ob : MO} {w : PV} (hr : r i = some t) (hm : μ[i]? = some (some (.ref t)))
    (ho : (∃ ns ws, ob = .lst ns ∧ w = .lst ws ∧ Rds (NN Z r) h ns ws) ∨ ∃ ns ws, ob = .dct ns ∧ w = .dct ws ∧ Rdk (NN Z r) h ns ws) :
    St cl Z (h.set t ob) (σ.set i (some w)) μ r := by
  have wk : ∀ a o, ¬ NN Z r a → h[a]? = some o → ¬ NN Z r a ∧ (h.set t ob)[a]? = some o := fun a o n e => ⟨n, by
    rw [List.getElem?_set_ne (fun q => by subst q; exact n (.inr ⟨i, hr⟩))]; exact e⟩
  have lt : t < h.length := (S.rt i t hr).2.1
  have slot : ∀ j v, (σ.set i (some w))[j]? = some (some v) → (j = i ∧ v = w) ∨ (j ≠ i ∧ σ[j]? = some (some v)) := fun j v e => by
    by_cases c : j = i
    · subst c
      by_cases lt : j < σ.length
      · rw [List.getElem?_set_self lt] at e; cases e; exact .inl ⟨rfl, rfl⟩
      · rw [List.getElem?_eq_none (by simpa using lt)] at e; cases e
    · rw [List.getElem?_set_ne (fun q => c q.symm)] at e
      exact .inr ⟨c, e⟩
  refine ⟨by rw [List.length_set]; exact S.len, fun j v c e => ?_, fun j v c e => ?_, fun j a e => ⟨(S.rt j a e).1, by rw [List.length_set]; exact (S.rt j a e).2.1, (S.rt j a e).2.2⟩, S.inj, fun a q => by rw [List.length_set]; exact S.zb a q⟩
  · rcases slot j v e with ⟨rfl, _⟩ | ⟨n, e⟩
    · exact absurd c (S.rt j t hr).1
    · obtain ⟨m, f1, f2⟩ := S.sh j v c e
      exact ⟨m, f1, f2.mono wk⟩
  · rcases slot j v e with ⟨rfl, rfl⟩ | ⟨n, e⟩
    · refine ⟨_, hm, .rt t hr rfl ?_⟩
      rcases ho with ⟨ns, ws, rfl, rfl, q⟩ | ⟨ns, ws, rfl, rfl, q⟩
      · exact .lst (List.getElem?_set_self lt) (q.mono wk)
      · exact .dct (List.getElem?_set_self lt) (q.mono wk)
    · obtain ⟨m, f1, f2⟩ := S.ow j v c e
      refine ⟨m, f1, f2.mono wk fun t' e' => ?_⟩
      rw [List.getElem?_set_ne (fun q => by subst q; exact n (S.inj j i _ e' hr))]
theorem Fr.mut {i t : Nat} {ob : MO} {w : PV} (hr : r i = some t) (nl : σ[i]? ≠ some (some PV.lck)) : Fr Z h σ r Z (h.set t ob) (σ.set i (some w)) r :=
  ⟨fun _ z => z, by simp, fun a o e n => by rw [List.getElem?_set_ne (fun q => by subst q; exact n i hr)]; exact e, fun a z => .inl z, set_lk (.inl nl)⟩
/-- what a variable that may be changed holds -/
theorem St.root (S : St cl Z h σ μ r) {i : Nat} (hc : canP cl i = true) (e : rdV σ i = some v) (hm : μ[i]? = some (some m)) (ld : isLD v = true) : ∃ t, r i = some t ∧ m = .ref t ∧ Rt (NN Z r) h t v := by
  obtain ⟨e1, e2⟩ := rdV_eq e
  have ns : cl i ≠ .sh := fun z => by simp [canP, z] at hc
  obtain ⟨m', e3, hd⟩ := S.ow i v ns e1
  rw [hm] at e3
  cases e3
  cases hd with
  | fz _ _ q =>
    rcases q with q | q
    · simp [canP, q] at hc
    · rw [ld] at q; cases q
  | rt t a b c => exact ⟨t, a, b, c⟩
  | lk _ q => subst q; cases e2
end
end Mn

set_option autoImplicit false
set_option maxHeartbeats 2000000
/-! Pt: expressions: what they come to over trees, they come to over places. -/
namespace Mn
open PySem L2
/-- a run over places that stands for a run over trees -/
def RE (cl : Nat → Cls) (Z : Nat → Prop) (h : MH) (σ : PS) (μ : MS') (r : Nat → Option Nat) (o : Opd) (σ' : PS) (R0 : R MV) : Prop :=
  ∃ m h' r' Z', R0 = .ok m h' ∧ St cl Z' h' σ' μ r' ∧ Fr Z h σ r Z' h' σ' r' ∧ TO cl Z Z' h' μ r' o m
def SE' (X : CQ) (M : Cm) (e : ME) : Prop := ∀ Z h σ μ r, St X.cl Z h σ μ r → ∀ o σ', evP X e σ = .ok o σ' → RE X.cl Z h σ μ r o σ' (evE M e μ h)
def RL (cl : Nat → Cls) (Z : Nat → Prop) (h : MH) (σ : PS) (μ : MS') (r : Nat → Option Nat) (os : List Opd) (σ' : PS) (R0 : R (List MV)) : Prop :=
  ∃ ms h' r' Z', R0 = .ok ms h' ∧ St cl Z' h' σ' μ r' ∧ Fr Z h σ r Z' h' σ' r' ∧ TOs cl Z Z' h' μ r' os ms
def SEs' (X : CQ) (M : Cm) (es : List ME) : Prop := ∀ Z h σ μ r, St X.cl Z h σ μ r → ∀ os σ', evPs X es σ = .ok os σ' → RL X.cl Z h σ μ r os σ' (evEs M es μ h)
def RB (cl : Nat → Cls) (Z : Nat → Prop) (h : MH) (σ : PS) (μ : MS') (r : Nat → Option Nat) (b : Bool) (σ' : PS) (R0 : R Bool) : Prop :=
  ∃ h' r', R0 = .ok b h' ∧ St cl Z h' σ' μ r' ∧ Fr Z h σ r Z h' σ' r'
def STs' (X : CQ) (M : Cm) (es : List ME) : Prop := ∀ Z h σ μ r, St X.cl Z h σ μ r → ∀ b σ', evPts X es σ = .ok b σ' → RB X.cl Z h σ μ r b σ' (evTs M es μ h)
theorem qbind_ok {α β : Type} {q : Q α} {f : α → PS → Q β} {b : β} {σ' : PS} (e : q.bind f = .ok b σ') : ∃ a σ1, q = .ok a σ1 ∧ f a σ1 = .ok b σ' := by
  cases q with
  | ok a σ1 => exact ⟨a, σ1, rfl, e⟩
  | exc _ _ _ => cases e
  | bad => cases e
theorem oO_ok {α : Type} {o : Option α} {σ σ' : PS} {a : α} (e : oO o σ = .ok a σ') : o = some a ∧ σ' = σ := by
  cases o with
  | none => cases e
  | some b => cases e; exact ⟨rfl, rfl⟩
theorem oB_ok {o : Option Bool} {σ σ' : PS} {a : Opd} (e : oB o σ = .ok a σ') : ∃ b, o = some b ∧ a = .val (.bl b) ∧ σ' = σ := by
  cases o with
  | none => cases e
  | some b => cases e; exact ⟨b, rfl, rfl, rfl⟩
theorem oV_ok {o : Option PV} {σ σ' : PS} {a : Opd} (e : oV o σ = .ok a σ') : ∃ b, o = some b ∧ a = .val b ∧ σ' = σ := by
  cases o with
  | none => cases e
  | some b => cases e; exact ⟨b, rfl, rfl, rfl⟩
theorem on1_ok {α : Type} {σ : PS} {o : Opd} {f : PV → Option α} {a : α} (e : on1 σ o f = some a) : ∃ x, lookO σ o = some x ∧ f x = some a := by
  unfold on1 at e
  split at e
  · exact ⟨_, by assumption, e⟩
  · cases e
theorem on2_ok {α : Type} {σ : PS} {o p : Opd} {f : PV → PV → Option α} {a : α} (e : on2 σ o p f = some a) : ∃ x y, lookO σ o = some x ∧ lookO σ p = some y ∧ f x y = some a := by
  unfold on2 at e
  split at e
  · exact ⟨_, _, by assumption, by assumption, e⟩
  · cases e
theorem intO_ok {σ : PS} {o : Opd} {i : Int} (e : intO σ o = some i) : lookO σ o = some (.int i) := by
  unfold intO at e
  split at e
  · cases e; assumption
  · cases e
section
variable {cl : Nat → Cls} {Z Z' Z1 Z2 Z0 : Nat → Prop} {h h' h1 h2 : MH} {σ σ' σ1 σ2 : PS} {μ μ' : MS'} {r r' r1 r2 : Nat → Option Nat} {o o' p : Opd} {m m' n : MV} {v : PV} {R0 : R MV}
/-- at the end of an operator -/
theorem RE.fin (S : St cl Z1 h1 σ1 μ r1) (F : Fr Z h σ r Z1 h1 σ1 r1) (x : OpOk (NN Z r1) h1 o R0) : RE cl Z h σ μ r o σ1 R0 := by
  have Sw := S.weak F.zz
  have Fw := F.weak (Z2 := Z) (fun _ z => z) F.zz
  cases o with
  | val v => obtain ⟨m, e, q⟩ := x; exact ⟨m, h1, r1, Z, e, Sw, Fw, q⟩
  | bor i => exact x.elim
  | own v =>
    have wk : ∀ ob a o, ¬ NN Z r1 a → h1[a]? = some o → ¬ NN (fun a => Z a ∨ a = h1.length) r1 a ∧ (h1 ++ [ob])[a]? = some o := fun ob => (Fr.push (σ := σ1) (ob := ob)).q
    have nz : ¬ Z h1.length := fun z => by have := Sw.zb _ z; omega
    cases v <;> try exact x.elim
    · obtain ⟨ms, e, q⟩ := x
      exact ⟨_, _, r1, _, e, Sw.push _, Fw.trans Sw .push, ⟨_, rfl, .inr rfl, nz, .lst (by simp) (q.mono (wk _))⟩⟩
    · obtain ⟨ms, e, q⟩ := x
      exact ⟨_, _, r1, _, e, Sw.push _, Fw.trans Sw .push, ⟨_, rfl, .inr rfl, nz, .dct (by simp) (q.mono (wk _))⟩⟩
theorem RE.val (S : St cl Z1 h1 σ1 μ r1) (F : Fr Z h σ r Z1 h1 σ1 r1) (x : Rd (NN Z r1) h1 m v) : RE cl Z h σ μ r (.val v) σ1 (.ok m h1) := RE.fin S F ⟨m, rfl, x⟩
/-- what is known of two operands -/
theorem two_ct (S : St cl Z2 h2 σ2 μ r2) (S1 : St cl Z1 h1 σ1 μ r1) (F1 : Fr Z h σ r Z1 h1 σ1 r1) (F2 : Fr Z1 h1 σ1 r1 Z2 h2 σ2 r2) (T1 : TO cl Z Z1 h1 μ r1 o m) (T2 : TO cl Z1 Z2 h2 μ r2 p n) {x y : PV} (e1 : lookO σ2 o = some x) (e2 : lookO σ2 p = some y) :
    Ct (NN Z r2) h2 m x ∧ Ct (NN Z r2) h2 n y :=
  ⟨(T1.step S1 F2).ct S (fun a z => F2.zz a (F1.zz a z)) e1, (T2.ct S F2.zz e2).weak (NN.weak F1.zz)⟩
theorem TO.base (q : ∀ a, Z a → Z1 a) (x : TO cl Z1 Z2 h μ r o m) : TO cl Z Z2 h μ r o m := by
  cases o with
  | val v => exact x
  | own v => obtain ⟨t, e, a, b, c⟩ := x; exact ⟨t, e, a, fun z => b (q t z), c⟩
  | bor i => exact x
theorem TOs.base (q : ∀ a, Z a → Z1 a) {os : List Opd} {ms : List MV} (x : TOs cl Z1 Z2 h μ r os ms) : TOs cl Z Z2 h μ r os ms := by
  induction x with
  | nil => exact .nil
  | cons a _ ih => exact .cons (a.base q) ih
theorem RE.after (S1 : St cl Z1 h1 σ1 μ r1) (F1 : Fr Z h σ r Z1 h1 σ1 r1) (x : RE cl Z1 h1 σ1 μ r1 o σ2 R0) : RE cl Z h σ μ r o σ2 R0 := by
  obtain ⟨m, h', r', Z', e, S, F, T⟩ := x
  exact ⟨m, h', r', Z', e, S, F1.trans S1 F, T.base F1.zz⟩
end
section
variable {X : CQ} {M : Cm} {a b c : ME} {es : List ME}
theorem se'_c {v : MV} : SE' X M (.c v) := by
  intro Z h σ μ r S o σ' e
  simp only [evP] at e
  split at e
  · cases e
    simp only [evE]
    exact RE.val S .refl (Rd.emb (by assumption))
  · cases e
theorem se'_var {i : Nat} : SE' X M (.var i) := by
  intro Z h σ μ r S o σ' e
  simp only [evP] at e
  split at e
  · rename_i v q
    obtain ⟨e1, e2⟩ := rdV_eq q
    split at e
    · cases e
      obtain ⟨m, f1, f2⟩ := S.sh i v (by assumption) e1
      simp only [evE, f1]
      exact RE.val S .refl f2
    · cases e
      obtain ⟨m, f1, f2⟩ := S.ow i v (by assumption) e1
      simp only [evE, f1]
      exact ⟨m, h, r, Z, rfl, S, .refl, ⟨by assumption, f1⟩⟩
  · cases e
theorem se'_glb {x : Str} (hg : M.gl = X.gl) : SE' X M (.glb x) := by
  intro Z h σ μ r S o σ' e
  simp only [evP] at e
  split at e
  · rename_i v q
    split at e
    · cases e
      simp only [evE, hg, q, ofO]
      exact RE.val S .refl (Rd.emb (by assumption))
    · cases e
  · cases e
theorem se'_tup (hs : SEs' X M es) : SE' X M (.tup es) := by
  intro Z h σ μ r S o σ' e
  simp only [evP] at e
  obtain ⟨os, σ1, e1, e⟩ := qbind_ok e
  obtain ⟨ms, h1, r1, Z1, q, S1, F1, T⟩ := hs Z h σ μ r S os σ1 e1
  simp only [evE, q, Mn.R.bind]
  split at e
  · rename_i vs σ2 e2
    cases e
    obtain ⟨r2, Z2, S2, F2, T2⟩ := forces_ok S1 F1.zz T e2
    exact RE.val S2 (F1.trans S1 F2) (.tup T2)
  · cases e
theorem se'_lst (hs : SEs' X M es) : SE' X M (.lst es) := by
  intro Z h σ μ r S o σ' e
  simp only [evP] at e
  obtain ⟨os, σ1, e1, e⟩ := qbind_ok e
  obtain ⟨ms, h1, r1, Z1, q, S1, F1, T⟩ := hs Z h σ μ r S os σ1 e1
  simp only [evE, q, Mn.R.bind]
  split at e
  · rename_i vs σ2 e2
    cases e
    obtain ⟨r2, Z2, S2, F2, T2⟩ := forces_ok S1 F1.zz T e2
    exact RE.fin S2 (F1.trans S1 F2) ⟨ms, rfl, T2⟩
  · cases e
theorem se'_dsp (hs : SEs' X M es) : SE' X M (.dsp es) := by
  intro Z h σ μ r S o σ' e
  simp only [evP] at e
  obtain ⟨os, σ1, e1, e⟩ := qbind_ok e
  obtain ⟨ms, h1, r1, Z1, q, S1, F1, T⟩ := hs Z h σ μ r S os σ1 e1
  simp only [evE, q, Mn.R.bind]
  split at e
  · rename_i vs σ2 e2
    split at e
    · rename_i ps e3
      cases e
      obtain ⟨r2, Z2, S2, F2, T2⟩ := forces_ok S1 F1.zz T e2
      obtain ⟨qs, e4, T4⟩ := T2.pairUp ps e3
      rw [e4]
      exact RE.fin S2 (F1.trans S1 F2) ⟨_, rfl, T4.fold .nil⟩
    · cases e
  · cases e
/-- two operands, one after the other -/
theorem two_ok (ha : SE' X M a) (hb : SE' X M b) {Z h σ μ r} (S : St X.cl Z h σ μ r) {o p : Opd} {σ1 σ2 : PS} (e1 : evP X a σ = .ok o σ1) (e2 : evP X b σ1 = .ok p σ2) :
    ∃ m h1 n h2 r2 Z2, evE M a μ h = .ok m h1 ∧ evE M b μ h1 = .ok n h2 ∧ St X.cl Z2 h2 σ2 μ r2 ∧ Fr Z h σ r Z2 h2 σ2 r2 ∧ TO X.cl Z Z2 h2 μ r2 o m ∧ TO X.cl Z Z2 h2 μ r2 p n := by
  obtain ⟨m, h1, r1, Z1, q1, S1, F1, T1⟩ := ha Z h σ μ r S o σ1 e1
  obtain ⟨n, h2, r2, Z2, q2, S2, F2, T2⟩ := hb Z1 h1 σ1 μ r1 S1 p σ2 e2
  exact ⟨m, h1, n, h2, r2, Z2, q1, q2, S2, F1.trans S1 F2, T1.step S1 F2, T2.base F1.zz⟩
theorem se'_bin {op : Operator} (ha : SE' X M a) (hb : SE' X M b) : SE' X M (.bin op a b) := by
  intro Z h σ μ r S o σ' e
  simp only [evP] at e
  obtain ⟨oa, σ1, e1, e⟩ := qbind_ok e
  obtain ⟨ob, σ2, e2, e⟩ := qbind_ok e
  obtain ⟨e3, rfl⟩ := oO_ok e
  obtain ⟨x, y, l1, l2, e4⟩ := on2_ok e3
  obtain ⟨m, h1, n, h2, r2, Z2, q1, q2, S2, F, T1, T2⟩ := two_ok ha hb S e1 e2
  simp only [evE, q1, q2, Mn.R.bind]
  exact RE.fin S2 F (bin_ok (T1.ct S2 F.zz l1) (T2.ct S2 F.zz l2) e4)
theorem se'_cmp {op : CmpOp} (ha : SE' X M a) (hb : SE' X M b) : SE' X M (.cmp op a b) := by
  intro Z h σ μ r S o σ' e
  simp only [evP] at e
  obtain ⟨oa, σ1, e1, e⟩ := qbind_ok e
  obtain ⟨ob, σ2, e2, e⟩ := qbind_ok e
  obtain ⟨t, e3, rfl, rfl⟩ := oB_ok e
  obtain ⟨x, y, l1, l2, e4⟩ := on2_ok e3
  obtain ⟨m, h1, n, h2, r2, Z2, q1, q2, S2, F, T1, T2⟩ := two_ok ha hb S e1 e2
  simp only [evE, q1, q2, Mn.R.bind, cmp_ok (T1.ct S2 F.zz l1) (T2.ct S2 F.zz l2) e4, ofB]
  exact RE.val S2 F (.bl t)
theorem se'_ix (ha : SE' X M a) (hb : SE' X M b) : SE' X M (.ix a b) := by
  intro Z h σ μ r S o σ' e
  simp only [evP] at e
  obtain ⟨oa, σ1, e1, e⟩ := qbind_ok e
  obtain ⟨ob, σ2, e2, e⟩ := qbind_ok e
  obtain ⟨t, e3, rfl, rfl⟩ := oV_ok e
  obtain ⟨x, y, l1, l2, e4⟩ := on2_ok e3
  obtain ⟨m, h1, n, h2, r2, Z2, q1, q2, S2, F, T1, T2⟩ := two_ok ha hb S e1 e2
  obtain ⟨k, e5, e6⟩ := ix_ok (T1.ct S2 F.zz l1) (T2.ct S2 F.zz l2) e4
  simp only [evE, q1, q2, Mn.R.bind, e5]
  exact RE.val S2 F e6
theorem se'_rngL (ha : SE' X M a) (hb : SE' X M b) : SE' X M (.rngL a b) := by
  intro Z h σ μ r S o σ' e
  simp only [evP] at e
  obtain ⟨oa, σ1, e1, e⟩ := qbind_ok e
  obtain ⟨ob, σ2, e2, e⟩ := qbind_ok e
  split at e
  · rename_i xs e3
    cases e
    obtain ⟨x, y, l1, l2, e4⟩ := on2_ok e3
    obtain ⟨m, h1, n, h2, r2, Z2, q1, q2, S2, F, T1, T2⟩ := two_ok ha hb S e1 e2
    obtain ⟨ms, e5, e6⟩ := rng_ok (T1.ct S2 F.zz l1) (T2.ct S2 F.zz l2) e4
    simp only [evE, q1, q2, Mn.R.bind, e5]
    exact RE.fin S2 F ⟨ms, rfl, e6⟩
  · cases e
theorem se'_rngT (ha : SE' X M a) (hb : SE' X M b) : SE' X M (.rngT a b) := by
  intro Z h σ μ r S o σ' e
  simp only [evP] at e
  obtain ⟨oa, σ1, e1, e⟩ := qbind_ok e
  obtain ⟨ob, σ2, e2, e⟩ := qbind_ok e
  split at e
  · rename_i xs e3
    cases e
    obtain ⟨x, y, l1, l2, e4⟩ := on2_ok e3
    obtain ⟨m, h1, n, h2, r2, Z2, q1, q2, S2, F, T1, T2⟩ := two_ok ha hb S e1 e2
    obtain ⟨ms, e5, e6⟩ := rng_ok (T1.ct S2 F.zz l1) (T2.ct S2 F.zz l2) e4
    simp only [evE, q1, q2, Mn.R.bind, e5]
    exact RE.val S2 F (.tup e6)
  · cases e
theorem se'_neg (ha : SE' X M a) : SE' X M (.neg a) := by
  intro Z h σ μ r S o σ' e
  simp only [evP] at e
  obtain ⟨oa, σ1, e1, e⟩ := qbind_ok e
  obtain ⟨m, h1, r1, Z1, q1, S1, F1, T1⟩ := ha Z h σ μ r S oa σ1 e1
  split at e
  · rename_i i e2
    cases e
    have := T1.ct S1 F1.zz (intO_ok e2)
    cases this.int
    simp only [evE, q1, Mn.R.bind]
    exact RE.val S1 F1 (.int _)
  · cases e
theorem se'_not (ha : SE' X M a) : SE' X M (.not_ a) := by
  intro Z h σ μ r S o σ' e
  simp only [evP] at e
  obtain ⟨oa, σ1, e1, e⟩ := qbind_ok e
  obtain ⟨m, h1, r1, Z1, q1, S1, F1, T1⟩ := ha Z h σ μ r S oa σ1 e1
  obtain ⟨t, e3, rfl, rfl⟩ := oB_ok e
  cases q : on1 σ' oa truthP with
  | none => rw [q] at e3; cases e3
  | some b =>
    rw [q] at e3
    cases e3
    obtain ⟨x, l1, e4⟩ := on1_ok q
    simp only [evE, q1, Mn.R.bind, (T1.ct S1 F1.zz l1).truth e4]
    exact RE.val S1 F1 (.bl _)
theorem se'_isi {t : Ty} (ha : SE' X M a) : SE' X M (.isi a t) := by
  intro Z h σ μ r S o σ' e
  simp only [evP] at e
  obtain ⟨oa, σ1, e1, e⟩ := qbind_ok e
  obtain ⟨m, h1, r1, Z1, q1, S1, F1, T1⟩ := ha Z h σ μ r S oa σ1 e1
  obtain ⟨t, e3, rfl, rfl⟩ := oB_ok e
  obtain ⟨x, l1, e4⟩ := on1_ok e3
  simp only [evE, q1, Mn.R.bind, isi_ok (T1.ct S1 F1.zz l1) e4, ofB]
  exact RE.val S1 F1 (.bl _)
theorem se'_sl (ha : SE' X M a) : SE' X M (.sl a) := by
  intro Z h σ μ r S o σ' e
  simp only [evP] at e
  obtain ⟨oa, σ1, e1, e⟩ := qbind_ok e
  obtain ⟨m, h1, r1, Z1, q1, S1, F1, T1⟩ := ha Z h σ μ r S oa σ1 e1
  obtain ⟨e3, rfl⟩ := oO_ok e
  obtain ⟨x, l1, e4⟩ := on1_ok e3
  simp only [evE, q1, Mn.R.bind]
  exact RE.fin S1 F1 (sl_ok (T1.ct S1 F1.zz l1) e4)
theorem se'_rev (ha : SE' X M a) : SE' X M (.rev a) := by
  intro Z h σ μ r S o σ' e
  simp only [evP] at e
  obtain ⟨oa, σ1, e1, e⟩ := qbind_ok e
  obtain ⟨m, h1, r1, Z1, q1, S1, F1, T1⟩ := ha Z h σ μ r S oa σ1 e1
  obtain ⟨e3, rfl⟩ := oO_ok e
  obtain ⟨x, l1, e4⟩ := on1_ok e3
  simp only [evE, q1, Mn.R.bind]
  exact RE.fin S1 F1 (rev_ok (T1.ct S1 F1.zz l1) e4)
theorem se'_slL (ha : SE' X M a) (hb : SE' X M b) : SE' X M (.slL a b) := by
  intro Z h σ μ r S o σ' e
  simp only [evP] at e
  obtain ⟨oa, σ1, e1, e⟩ := qbind_ok e
  obtain ⟨ob, σ2, e2, e⟩ := qbind_ok e
  obtain ⟨m, h1, n, h2, r2, Z2, q1, q2, S2, F, T1, T2⟩ := two_ok ha hb S e1 e2
  split at e
  · rename_i i e3
    obtain ⟨e4, rfl⟩ := oO_ok e
    obtain ⟨x, l1, e5⟩ := on1_ok e4
    cases (T2.ct S2 F.zz (intO_ok e3)).int
    simp only [evE, q1, q2, Mn.R.bind]
    exact RE.fin S2 F (sl_ok (T1.ct S2 F.zz l1) e5)
  · cases e
theorem se'_slH (ha : SE' X M a) (hb : SE' X M b) : SE' X M (.slH a b) := by
  intro Z h σ μ r S o σ' e
  simp only [evP] at e
  obtain ⟨oa, σ1, e1, e⟩ := qbind_ok e
  obtain ⟨ob, σ2, e2, e⟩ := qbind_ok e
  obtain ⟨m, h1, n, h2, r2, Z2, q1, q2, S2, F, T1, T2⟩ := two_ok ha hb S e1 e2
  split at e
  · rename_i i e3
    obtain ⟨e4, rfl⟩ := oO_ok e
    obtain ⟨x, l1, e5⟩ := on1_ok e4
    cases (T2.ct S2 F.zz (intO_ok e3)).int
    simp only [evE, q1, q2, Mn.R.bind]
    exact RE.fin S2 F (sl_ok (T1.ct S2 F.zz l1) e5)
  · cases e
theorem se'_slB (ha : SE' X M a) (hb : SE' X M b) (hc : SE' X M c) : SE' X M (.slB a b c) := by
  intro Z h σ μ r S o σ' e
  simp only [evP] at e
  obtain ⟨oa, σ1, e1, e⟩ := qbind_ok e
  obtain ⟨ob, σ2, e2, e⟩ := qbind_ok e
  obtain ⟨m, h1, n, h2, r2, Z2, q1, q2, S2, F, T1, T2⟩ := two_ok ha hb S e1 e2
  split at e
  · rename_i i e3
    obtain ⟨oc, σ3, f1, e⟩ := qbind_ok e
    obtain ⟨k, h3, r3, Z3, q3, S3, F3, T3⟩ := hc Z2 h2 σ2 μ r2 S2 oc σ3 f1
    split at e
    · rename_i j e4
      obtain ⟨e5, rfl⟩ := oO_ok e
      obtain ⟨x, l1, e6⟩ := on1_ok e5
      cases (T2.ct S2 F.zz (intO_ok e3)).int
      cases (T3.ct S3 F3.zz (intO_ok e4)).int
      simp only [evE, q1, q2, q3, Mn.R.bind]
      have F' := F.trans S2 F3
      exact RE.fin S3 F' (sl_ok ((T1.step S2 F3).ct S3 F'.zz l1) e6)
    · cases e
  · cases e
theorem se'_chain {o1 o2 : CmpOp} (ha : SE' X M a) (hb : SE' X M b) (hc : SE' X M c) : SE' X M (.chain o1 o2 a b c) := by
  intro Z h σ μ r S o σ' e
  simp only [evP] at e
  obtain ⟨oa, σ1, e1, e⟩ := qbind_ok e
  obtain ⟨ob, σ2, e2, e⟩ := qbind_ok e
  obtain ⟨m, h1, n, h2, r2, Z2, q1, q2, S2, F, T1, T2⟩ := two_ok ha hb S e1 e2
  split at e
  · rename_i e3
    obtain ⟨x, y, l1, l2, e4⟩ := on2_ok e3
    obtain ⟨oc, σ3, f1, e⟩ := qbind_ok e
    obtain ⟨k, h3, r3, Z3, q3, S3, F3, T3⟩ := hc Z2 h2 σ2 μ r2 S2 oc σ3 f1
    obtain ⟨t, e5, rfl, rfl⟩ := oB_ok e
    obtain ⟨x2, y2, l3, l4, e6⟩ := on2_ok e5
    have F' := F.trans S2 F3
    simp only [evE, q1, q2, Mn.R.bind, cmp_ok (T1.ct S2 F.zz l1) (T2.ct S2 F.zz l2) e4, q3, cmp_ok ((T2.step S2 F3).ct S3 F'.zz l3) ((T3.base F.zz).ct S3 F'.zz l4) e6, ofB]
    exact RE.val S3 F' (.bl t)
  · rename_i e3
    cases e
    obtain ⟨x, y, l1, l2, e4⟩ := on2_ok e3
    simp only [evE, q1, q2, Mn.R.bind, cmp_ok (T1.ct S2 F.zz l1) (T2.ct S2 F.zz l2) e4]
    exact RE.val S2 F (.bl _)
  · cases e
theorem se'_and (ha : SE' X M a) (hb : SE' X M b) : SE' X M (.and_ a b) := by
  intro Z h σ μ r S o σ' e
  simp only [evP] at e
  obtain ⟨oa, σ1, e1, e⟩ := qbind_ok e
  obtain ⟨m, h1, r1, Z1, q1, S1, F1, T1⟩ := ha Z h σ μ r S oa σ1 e1
  split at e
  · rename_i e2
    obtain ⟨x, l1, e4⟩ := on1_ok e2
    simp only [evE, q1, Mn.R.bind, (T1.ct S1 F1.zz l1).truth e4]
    exact (hb Z1 h1 σ1 μ r1 S1 o σ' e).after S1 F1
  · rename_i e2
    cases e
    obtain ⟨x, l1, e4⟩ := on1_ok e2
    simp only [evE, q1, Mn.R.bind, (T1.ct S1 F1.zz l1).truth e4]
    exact ⟨m, h1, r1, Z1, rfl, S1, F1, T1⟩
  · cases e
theorem se'_or (ha : SE' X M a) (hb : SE' X M b) : SE' X M (.or_ a b) := by
  intro Z h σ μ r S o σ' e
  simp only [evP] at e
  obtain ⟨oa, σ1, e1, e⟩ := qbind_ok e
  obtain ⟨m, h1, r1, Z1, q1, S1, F1, T1⟩ := ha Z h σ μ r S oa σ1 e1
  split at e
  · rename_i e2
    cases e
    obtain ⟨x, l1, e4⟩ := on1_ok e2
    simp only [evE, q1, Mn.R.bind, (T1.ct S1 F1.zz l1).truth e4]
    exact ⟨m, h1, r1, Z1, rfl, S1, F1, T1⟩
  · rename_i e2
    obtain ⟨x, l1, e4⟩ := on1_ok e2
    simp only [evE, q1, Mn.R.bind, (T1.ct S1 F1.zz l1).truth e4]
    exact (hb Z1 h1 σ1 μ r1 S1 o σ' e).after S1 F1
  · cases e
theorem se'_ife (ht : SE' X M c) (ha : SE' X M a) (hb : SE' X M b) : SE' X M (.ife c a b) := by
  intro Z h σ μ r S o σ' e
  simp only [evP] at e
  obtain ⟨oa, σ1, e1, e⟩ := qbind_ok e
  obtain ⟨m, h1, r1, Z1, q1, S1, F1, T1⟩ := ht Z h σ μ r S oa σ1 e1
  split at e
  · rename_i e2
    obtain ⟨x, l1, e4⟩ := on1_ok e2
    simp only [evE, q1, Mn.R.bind, (T1.ct S1 F1.zz l1).truth e4]
    exact (ha Z1 h1 σ1 μ r1 S1 o σ' e).after S1 F1
  · rename_i e2
    obtain ⟨x, l1, e4⟩ := on1_ok e2
    simp only [evE, q1, Mn.R.bind, (T1.ct S1 F1.zz l1).truth e4]
    exact (hb Z1 h1 σ1 μ r1 S1 o σ' e).after S1 F1
  · cases e
theorem se'_blt {bi : Bi} (hs : SEs' X M es) : SE' X M (.blt bi es) := by
  intro Z h σ μ r S o σ' e
  simp only [evP] at e
  obtain ⟨os, σ1, e1, e⟩ := qbind_ok e
  obtain ⟨ms, h1, r1, Z1, q, S1, F1, T⟩ := hs Z h σ μ r S os σ1 e1
  simp only [evE, q, Mn.R.bind]
  split at e
  · rename_i vs e2
    obtain ⟨e3, rfl⟩ := oO_ok e
    exact RE.fin S1 F1 (blt_ok (looks_ok S1 F1.zz T e2) e3)
  · cases e
theorem reads_get {m : Me} (e : m.reads = true) : m = .get := by cases m <;> first | rfl | cases e
theorem methP_ld {m : Me} {o : PV} {vs : List PV} {y : PV × PV} (e : methP m o vs = some y) : isLD o = true := by cases o <;> first | rfl | cases e
theorem se'_meth {me : Me} (ha : SE' X M a) (hs : SEs' X M es) : SE' X M (.meth me a es) := by
  intro Z h σ μ r S o σ' e
  simp only [evP] at e
  obtain ⟨ob, σ1, e1, e⟩ := qbind_ok e
  obtain ⟨m, h1, r1, Z1, q1, S1, F1, T1⟩ := ha Z h σ μ r S ob σ1 e1
  split at e
  · rename_i kd e2
    obtain ⟨x, l1, e3⟩ := on1_ok e2
    obtain ⟨os, σ2, e4, e⟩ := qbind_ok e
    obtain ⟨ms, h2, r2, Z2, q2, S2, F2, T2⟩ := hs Z1 h1 σ1 μ r1 S1 os σ2 e4
    simp only [evE, q1, Mn.R.bind, (T1.ct S1 F1.zz l1).kd e3, q2]
    unfold methO at e
    split at e
    · rename_i vs σ3 e5
      obtain ⟨r3, Z3, S3, F3, T3⟩ := forces_ok S2 F2.zz T2 e5
      have F23 := F2.trans S2 F3
      have T1' := T1.step S1 F23
      have F' := F1.trans S1 F23
      split at e
      · split at e
        · rename_i x2 l2
          split at e
          · rename_i hk
            obtain ⟨e6, rfl⟩ := oO_ok e
            exact RE.fin S3 F' (read_ok (T1'.ct S3 F'.zz l2) hk (T3.weak (NN.weak F1.zz)) e6)
          · cases e
        · cases e
      · cases ob with
        | val _ => cases e
        | own _ => cases e
        | bor i =>
          dsimp only at e
          split at e
          · rename_i hc
            split at e
            · rename_i x2 l2
              split at e
              · rename_i hk
                split at e
                · rename_i y x' e6
                  cases e
                  have Sz := S3.weak F'.zz
                  have Fz := F'.weak (Z2 := Z) (fun _ z => z) F'.zz
                  obtain ⟨t, rt1, rfl, rt2⟩ := Sz.root hc l2 T1'.2 (methP_ld e6)
                  obtain ⟨my, ns, ws, rfl, e7, e8, e9⟩ := meth_ok rt2 hk (T3.weak (NN.weak F1.zz)) e6
                  have Fm : Fr Z h2 σ3 r3 Z (h2.set t (.lst ns)) (σ3.set i (some (.lst ws))) r3 := Fr.mut rt1 (rdV_nlk l2)
                  rw [e7]
                  exact ⟨my, _, r3, Z, rfl, Sz.mut rt1 T1'.2 (.inl ⟨ns, ws, rfl, rfl, e9⟩), Fz.trans Sz Fm, Fm.rd e8⟩
                · cases e
              · cases e
            · cases e
          · cases e
    · cases e
  · cases e
theorem ses'_nil : SEs' X M [] := by
  intro Z h σ μ r S os σ' e
  simp only [evPs] at e
  cases e
  exact ⟨[], h, r, Z, rfl, S, .refl, .nil⟩
theorem ses'_cons (ha : SE' X M a) (hs : SEs' X M es) : SEs' X M (a :: es) := by
  intro Z h σ μ r S os σ' e
  simp only [evPs] at e
  obtain ⟨o, σ1, e1, e⟩ := qbind_ok e
  obtain ⟨os, σ2, e2, e⟩ := qbind_ok e
  cases e
  obtain ⟨m, h1, r1, Z1, q1, S1, F1, T1⟩ := ha Z h σ μ r S o σ1 e1
  obtain ⟨ms, h2, r2, Z2, q2, S2, F2, T2⟩ := hs Z1 h1 σ1 μ r1 S1 _ _ e2
  exact ⟨m :: ms, h2, r2, Z2, by simp only [evEs, q1, q2, Mn.R.bind], S2, F1.trans S1 F2, .cons (T1.step S1 F2) (T2.base F1.zz)⟩
theorem sts'_nil : STs' X M [] := by
  intro Z h σ μ r S b σ' e
  simp only [evPts] at e
  cases e
  exact ⟨h, r, by simp only [evTs], S, .refl⟩
theorem sts'_cons (ha : SE' X M a) (hs : STs' X M es) : STs' X M (a :: es) := by
  intro Z h σ μ r S b σ' e
  simp only [evPts] at e
  obtain ⟨o, σ1, e1, e⟩ := qbind_ok e
  obtain ⟨m, h1, r1, Z1, q1, S1, F1, T1⟩ := ha Z h σ μ r S o σ1 e1
  have Sw := S1.weak F1.zz
  have Fw := F1.weak (Z2 := Z) (fun _ z => z) F1.zz
  split at e
  · rename_i e2
    obtain ⟨x, l1, e4⟩ := on1_ok e2
    obtain ⟨h2, r2, q2, S2, F2⟩ := hs Z h1 σ1 μ r1 Sw b σ' e
    exact ⟨h2, r2, by simp only [evTs, q1, Mn.R.bind, (T1.ct S1 F1.zz l1).truth e4, q2], S2, Fw.trans Sw F2⟩
  · rename_i e2
    cases e
    obtain ⟨x, l1, e4⟩ := on1_ok e2
    exact ⟨h1, r1, by simp only [evTs, q1, Mn.R.bind, (T1.ct S1 F1.zz l1).truth e4], Sw, Fw⟩
  · cases e
end
end Mn

set_option autoImplicit false
set_option maxHeartbeats 2000000
/-! Pu: loops and comprehensions. -/
namespace Mn
open PySem L2
theorem seqsP_of {v : PV} {xs : List PV} (e : seqsP v = some xs) : v = .tup xs ∨ lstsP v = some xs := by
  cases v <;> simp only [seqsP] at e <;> first | (cases e; exact .inl rfl) | exact .inr e
/-- what is walked -/
theorem it_ok {N : Nat → Prop} {h : MH} {ik : IK} {m n : MV} {x y : PV} {xs : List PV} (r : Ct N h m x) (s : Ct N h n y) (e : itP ik x y = some xs) :
    ∃ it, itM ik m n h = some it ∧ ∀ N' h', Ct N' h' m x → Ct N' h' n y → ∃ ms, it.items h' = some ms ∧ Rds N' h' ms xs := by
  have lref : ∀ {N : Nat → Prop} {h : MH} {a : Nat} {v : PV} {xs : List PV}, lstsP v = some xs → Ct N h (.ref a) v → ∃ ms, lsts h a = some ms ∧ Rds N h ms xs := fun q c => by
    obtain ⟨b, ms, eb, e1, e2⟩ := c.lsts q
    cases eb
    exact ⟨ms, e1, e2⟩
  unfold itP at e
  split at e
  · rcases seqsP_of e with rfl | q
    · obtain ⟨ms, rfl, _⟩ := r.tup
      refine ⟨.fix ms, rfl, fun N' h' c _ => ?_⟩
      obtain ⟨ms', e1, e2⟩ := c.tup
      cases e1
      exact ⟨_, rfl, e2⟩
    · obtain ⟨a, ms, rfl, e1, _⟩ := r.lsts q
      exact ⟨.live a, by simp only [itM, e1, Option.map_some], fun N' h' c _ => lref q c⟩
  · split at e <;> cases e
    cases r.int
    exact ⟨_, by simp only [itM]; rw [if_pos (by assumption)], fun N' h' _ _ => ⟨_, rfl, Rds.rng _ _⟩⟩
  · split at e <;> cases e
    cases r.int; cases s.int
    exact ⟨_, by simp only [itM]; rw [if_pos (by assumption)], fun N' h' _ _ => ⟨_, rfl, Rds.rng _ _⟩⟩
  · cases q0 : seqsP x with
    | none => rw [q0] at e; cases e
    | some ys =>
      rw [q0] at e; cases e
      rcases seqsP_of q0 with rfl | q
      · obtain ⟨ms, rfl, _⟩ := r.tup
        refine ⟨.enumF ms, rfl, fun N' h' c _ => ?_⟩
        obtain ⟨ms', e1, e2⟩ := c.tup
        cases e1
        exact ⟨_, rfl, e2.enum⟩
      · obtain ⟨a, ms, rfl, e1, _⟩ := r.lsts q
        refine ⟨.enumL a, by simp only [itM, e1, Option.map_some], fun N' h' c _ => ?_⟩
        obtain ⟨ms, f1, f2⟩ := lref q c
        exact ⟨_, by simp only [It.items, f1, Option.map_some], f2.enum⟩
  · cases e
    obtain ⟨ms, rfl, _⟩ := r.tup
    obtain ⟨ns, rfl, _⟩ := s.tup
    refine ⟨.zipFF ms ns, rfl, fun N' h' c d => ?_⟩
    obtain ⟨ms', e1, e2⟩ := c.tup
    obtain ⟨ns', f1, f2⟩ := d.tup
    cases e1; cases f1
    exact ⟨_, rfl, e2.zip f2⟩
  · split at e
    · rename_i q1 q2
      cases e
      obtain ⟨a, ms, rfl, e1, _⟩ := r.lsts q1
      obtain ⟨b, ns, rfl, e2, _⟩ := s.lsts q2
      refine ⟨.zipLL a b, by simp only [itM, e1, e2], fun N' h' c d => ?_⟩
      obtain ⟨ms, f1, f2⟩ := lref q1 c
      obtain ⟨ns, g1, g2⟩ := lref q2 d
      exact ⟨_, by simp only [It.items, f1, g1], f2.zip g2⟩
    · cases e
  · cases e
section
variable {cl : Nat → Cls} {Z Z' Z1 Z2 Z0 : Nat → Prop} {h h' h1 h2 : MH} {σ σ' σ1 σ2 : PS} {μ μ' : MS'} {r r' r1 r2 : Nat → Option Nat} {o o' p : Opd} {m m' n : MV} {v : PV}
/-- how an operand is put back where another one is shut behind it -/
def Lkj (cl : Nat → Cls) (Zt Zm : Nat → Prop) (o : Opd) (m : MV) (v : PV) (Z : Nat → Prop) (h : MH) (μ : MS') (r : Nat → Option Nat) : Prop := match o with
  | .bor i => cl i ≠ .sh ∧ μ[i]? = some (some m) ∧ ((∃ t, m = .ref t ∧ Zm t ∧ ¬ Zt t ∧ Rt (NN Z r) h t v) ∨ (Rd (NN Z r) h m v ∧ (cl i = .bf ∨ isLD v = false)))
  | _ => True
theorem Lkj.of {Zt : Nat → Prop} (x : Lki cl Zt o m v Z h μ r) : Lkj cl Zt Z o m v Z h μ r := x
theorem Lkj.to {Zt Zm : Nat → Prop} (x : Lkj cl Zt Zm o m v Z h μ r) (f : ∀ a, NN Zm r1 a → NN Z r a) : Lki cl Zt o m v Zm h μ r1 := by
  cases o with
  | val _ => trivial
  | own _ => trivial
  | bor i =>
    obtain ⟨a, b, c⟩ := x
    refine ⟨a, b, ?_⟩
    rcases c with ⟨t, e1, e2, e3, e4⟩ | ⟨e1, e2⟩
    · exact .inl ⟨t, e1, e2, e3, e4.weak f⟩
    · exact .inr ⟨e1.weak f, e2⟩
theorem Lkj.step {Zt Zm : Nat → Prop} (S : St cl Z1 h1 σ1 μ r1) (F : Fr Z1 h1 σ1 r1 Z2 h2 σ2 r2) (hm : ∀ i, o = .bor i → μ'[i]? = μ[i]?) (z : ∀ a, Zm a → Z1 a) (x : Lkj cl Zt Zm o m v Z1 h1 μ r1) : Lkj cl Zt Zm o m v Z2 h2 μ' r2 := by
  cases o with
  | val _ => trivial
  | own _ => trivial
  | bor i =>
    obtain ⟨a, b, c⟩ := x
    refine ⟨a, by rw [hm i rfl]; exact b, ?_⟩
    rcases c with ⟨t, e1, e2, e3, e4⟩ | ⟨e1, e2⟩
    · exact .inl ⟨t, e1, e2, e3, F.rt (fun i q => (S.rt i t q).2.2 (z t e2)) e4⟩
    · exact .inr ⟨F.rd e1, e2⟩
theorem src_ok {ik : IK} {oa ob : Opd} {x y : PV} {xs : List PV} (S : St cl Z' h σ μ r) (z : ∀ a, Z a → Z' a) (Ta : TO cl Z Z' h μ r oa m) (Tb : TO cl Z Z' h μ r ob n) (e : srcP ik oa ob σ = some (x, y, xs, σ')) :
    ∃ r2 Z2 Zm, St cl Z2 h σ' μ r2 ∧ Fr Z' h σ r Z2 h σ' r2 ∧ Src Z2 h r2 m x ∧ Src Z2 h r2 n y ∧ (∀ a, Z' a → Zm a) ∧ (∀ a, Zm a → Z2 a) ∧ Lkj cl Z' Zm oa m x Z2 h μ r2 ∧ Lkj cl Zm Z2 ob n y Z2 h μ r2 ∧ itP ik x y = some xs ∧ (∀ i, oa = .bor i ∨ ob = .bor i → σ'[i]? = some (some PV.lck)) ∧ (∀ i, oa = .bor i ∨ ob = .bor i → σ[i]? ≠ some (some PV.lck)) := by
  unfold srcP at e
  split at e
  · rename_i x1 σ1 e1
    split at e
    · rename_i y1 σ2 e2
      cases q : itP ik x1 y1 with
      | none => rw [q] at e; cases e
      | some ys =>
        rw [q] at e
        cases e
        obtain ⟨r1, Z1, S1, F1, s1, k1, n1⟩ := lock_ok S z Ta e1
        obtain ⟨r2, Z2, S2, F2, s2, k2, n2⟩ := lock_ok S1 (fun a q => F1.zz a (z a q)) (Tb.step S F1) e2
        refine ⟨r2, Z2, Z1, S2, F1.trans S1 F2, s1.step S1 F2, s2, F1.zz, F2.zz, ?_, k2, q, fun i hi => ?_, fun i hi => ?_⟩
        · exact (Lkj.of k1).step S1 F2 (fun _ _ => rfl) fun _ q => q
        · rcases hi with hi | hi
          · exact F2.lk i (n1 i hi).1
          · exact (n2 i hi).1
        · rcases hi with hi | hi
          · exact (n1 i hi).2
          · exact fun z => (n2 i hi).2 (F1.lk i z)
    · cases e
  · cases e
theorem unlockO_get {j : Nat} (n : o ≠ .bor j) : (unlockO o v σ)[j]? = σ[j]? := by
  cases o with
  | bor i => simp only [unlockO]; rw [List.getElem?_set_ne (fun q => n (by rw [q]))]
  | _ => rfl
/-- both opened again -/
theorem unsrc_ok {oa ob : Opd} {x y : PV} {Zm Zt Z2 : Nat → Prop} (S : St cl Z2 h σ μ r) (z1 : ∀ a, Zt a → Zm a) (z2 : ∀ a, Zm a → Z2 a)
    (ka : Lkj cl Zt Zm oa m x Z2 h μ r) (kb : Lkj cl Zm Z2 ob n y Z2 h μ r) : ∃ r2, St cl Zt h (unlockO oa x (unlockO ob y σ)) μ r2 ∧ (∀ a, NN Zt r2 a → NN Z2 r a) := by
  obtain ⟨r1, S1, f1⟩ := unlock_ok S z2 (kb.to fun _ q => q)
  obtain ⟨r2, S2, f2⟩ := unlock_ok S1 z1 (ka.to f1)
  exact ⟨r2, S2, fun a q => f1 a (f2 a q)⟩
theorem unlock_lk {oa ob : Opd} {x y : PV} (n : ∀ i, oa = .bor i ∨ ob = .bor i → σ1[i]? ≠ some (some PV.lck)) (q : ∀ i : Nat, σ1[i]? = some (some PV.lck) → σ[i]? = some (some PV.lck)) :
    ∀ i : Nat, σ1[i]? = some (some PV.lck) → (unlockO oa x (unlockO ob y σ))[i]? = some (some PV.lck) := fun i e => by
  rw [unlockO_get fun z => n i (.inl z) e, unlockO_get fun z => n i (.inr z) e]
  exact q i e
/-! ### names given -/
def lkμ (cl : Nat → Cls) (σ : PS) (μ μ' : MS') : Prop := ∀ i : Nat, (σ[i]? = some (some PV.lck) ∨ cl i = .io ∨ cl i = .br ∨ cl i = .bf) → μ'[i]? = μ[i]?
theorem lkμ.trans (F : ∀ i : Nat, σ[i]? = some (some PV.lck) → σ1[i]? = some (some PV.lck)) {μ1 : MS'} (a : lkμ cl σ μ μ1) (b : lkμ cl σ1 μ1 μ') : lkμ cl σ μ μ' := fun i z => (b i (z.imp (F i) id)).trans (a i z)
mutual
theorem asgq_ok : ∀ (tg : MT) {v : PV} {m : MV} {σ : PS} {μ : MS'} {r : Nat → Option Nat} {σ' : PS}, St cl Z h σ μ r → Rd (NN Z r) h m v → asgP cl tg v σ = some σ' →
    ∃ μ' r', asgT tg m μ = some μ' ∧ St cl Z h σ' μ' r' ∧ Fr Z h σ r Z h σ' r' ∧ lkμ cl σ μ μ' ∧ (∀ i, i ∉ tg.slots → μ'[i]? = μ[i]? ∧ σ'[i]? = σ[i]?) ∧ μ'.length = μ.length
  | .nm i, v, m, σ, μ, r, σ', S, q, e => by
    simp only [asgP] at e
    split at e
    · rename_i hc
      cases e
      have rn : r i = none := by
        cases z : r i with
        | none => rfl
        | some t => exact absurd hc (S.rt i t z).1
      have ur : updR r i none = r := by
        funext j
        by_cases c : j = i
        · subst c; rw [updR_same, rn]
        · exact updR_ne c
      have S2 := S.put (Z := Z) (i := i) (ra := none) (w := some v) (μ' := μ.set i (some m)) (fun _ z => z) (by simp) (fun j n => List.getElem?_set_ne (fun z => n z.symm)) (fun v' ev lt => by
        cases ev; rw [ur]; exact ⟨m, List.getElem?_set_self lt, fun _ => q, fun n => absurd hc n⟩) (fun t et => by cases et)
      rw [ur] at S2
      have nl : σ[i]? ≠ some (some PV.lck) := fun z => by
        obtain ⟨m', _, y⟩ := S.sh i _ hc z
        cases y
      refine ⟨_, r, rfl, S2, ⟨fun _ z => z, Nat.le_refl _, fun _ _ e _ => e, fun a z => .inl z, set_lk (.inl nl)⟩, fun j z => ?_, fun j nj => ?_, by simp⟩
      · rw [List.getElem?_set_ne]; intro c; subst c; rcases z with z | z | z | z
        · exact nl z
        all_goals (rw [hc] at z; cases z)
      · simp [MT.slots] at nj
        exact ⟨List.getElem?_set_ne (fun z => nj z.symm), List.getElem?_set_ne (fun z => nj z.symm)⟩
    · rename_i hc
      split at e
      · cases e
      · rename_i ld
        split at e
        · cases e
        · rename_i nl
          cases e
          have up : ∀ a, NN Z (updR r i none) a → NN Z r a := fun a y => NN.upd (fun _ z => z) (fun t e => by cases e) a y
          have S2 := S.put (Z := Z) (i := i) (ra := none) (w := some v) (μ' := μ.set i (some m)) (fun _ z => z) (by simp) (fun j n => List.getElem?_set_ne (fun z => n z.symm)) (fun v' ev lt => by
            cases ev; exact ⟨m, List.getElem?_set_self lt, fun c => (by rw [hc] at c; cases c), fun n => .fz rfl (q.weak up) (.inr (by simpa using ld))⟩) (fun t et => by cases et)
          refine ⟨_, _, rfl, S2, ⟨fun _ z => z, Nat.le_refl _, fun _ _ e _ => e, fun a z => .inl (up a z), set_lk (.inl nl)⟩, fun j z => ?_, fun j nj => ?_, by simp⟩
          · rw [List.getElem?_set_ne]; intro c; subst c; rcases z with z | z | z | z
            · exact nl z
            all_goals (rw [hc] at z; cases z)
          · simp [MT.slots] at nj
            exact ⟨List.getElem?_set_ne (fun z => nj z.symm), List.getElem?_set_ne (fun z => nj z.symm)⟩
    · cases e
  | .tp ts, v, m, σ, μ, r, σ', S, q, e => by
    cases v <;> simp only [asgP] at e <;> try (cases e; done)
    cases q with
    | tup q =>
      split at e
      · rename_i hl
        obtain ⟨μ', r', e1, a, b, c, d, l⟩ := asgs_ok ts S q e
        exact ⟨μ', r', by simp only [asgT]; rw [if_pos (by rw [q.length]; exact hl)]; exact e1, a, b, c, fun i n => d i (by simpa [MT.slots] using n), l⟩
      · cases e
theorem asgs_ok : ∀ (tg : List MT) {v : List PV} {m : List MV} {σ : PS} {μ : MS'} {r : Nat → Option Nat} {σ' : PS}, St cl Z h σ μ r → Rds (NN Z r) h m v → asgPs cl tg v σ = some σ' →
    ∃ μ' r', asgTs tg m μ = some μ' ∧ St cl Z h σ' μ' r' ∧ Fr Z h σ r Z h σ' r' ∧ lkμ cl σ μ μ' ∧ (∀ i, i ∉ MT.slotss tg → μ'[i]? = μ[i]? ∧ σ'[i]? = σ[i]?) ∧ μ'.length = μ.length
  | [], v, m, σ, μ, r, σ', S, q, e => by
    simp only [asgPs] at e
    cases e
    exact ⟨μ, r, by simp only [asgTs], S, .refl, fun _ _ => rfl, fun _ _ => ⟨rfl, rfl⟩, rfl⟩
  | t :: ts, v, m, σ, μ, r, σ', S, q, e => by
    cases q with
    | nil => simp only [asgPs] at e; cases e
    | cons a b =>
      simp only [asgPs] at e
      cases q1 : asgP cl t _ σ with
      | none => rw [q1] at e; cases e
      | some σ1 =>
        rw [q1] at e
        obtain ⟨μ1, r1, e1, S1, F1, k1, d1, l1⟩ := asgq_ok t S a q1
        obtain ⟨μ2, r2, e2, S2, F2, k2, d2, l2⟩ := asgs_ok ts S1 (b.mono F1.q) e
        refine ⟨μ2, r2, by simp only [asgTs, e1, Option.bind_some, e2], S2, F1.trans S1 F2, k1.trans F1.lk k2, fun i n => ?_, l2.trans l1⟩
        simp only [MT.slotss, List.mem_append, not_or] at n
        exact ⟨(d2 i n.2).1.trans (d1 i n.1).1, (d2 i n.2).2.trans (d1 i n.1).2⟩
end
/-! ### slots of a comprehension's own -/
theorem wipeP_get : ∀ {own : List Nat} {σ : PS} {i : Nat}, (wipeP σ own)[i]? = if i ∈ own then (if i < σ.length then some none else none) else σ[i]?
  | [], σ, i => by simp [wipeP]
  | v :: vs, σ, i => by
    have ln : ∀ {own : List Nat} {σ : PS}, (wipeP σ own).length = σ.length := fun {own σ} => by
      induction own with
      | nil => rfl
      | cons a l ih => simp [wipeP, ih]
    simp only [wipeP]
    by_cases c : i = v
    · subst c
      by_cases lt : i < σ.length
      · rw [List.getElem?_set_self (by rw [ln]; exact lt)]; simp [lt]
      · rw [List.getElem?_eq_none (by rw [List.length_set, ln]; omega)]; simp [lt]
    · rw [List.getElem?_set_ne (fun z => c z.symm), wipeP_get]
      simp [c]
theorem wipeP_len : ∀ {own : List Nat} {σ : PS}, (wipeP σ own).length = σ.length
  | [], σ => rfl
  | v :: vs, σ => by simp [wipeP, wipeP_len]
theorem wipeM_get : ∀ {own : List Nat} {σ : MS'} {i : Nat}, i ∉ own → (wipeM σ own)[i]? = σ[i]?
  | [], σ, i, _ => rfl
  | v :: vs, σ, i, n => by
    simp only [List.mem_cons, not_or] at n
    simp only [wipeM]
    rw [List.getElem?_set_ne (fun z => n.1 z.symm), wipeM_get n.2]
theorem wipeM_len : ∀ {own : List Nat} {σ : MS'}, (wipeM σ own).length = σ.length
  | [], σ => rfl
  | v :: vs, σ => by simp [wipeM, wipeM_len]
/-- own slots wiped; the other store may be any that agrees elsewhere -/
theorem St.wipe {own : List Nat} (S : St cl Z h σ μ r) (ho : ∀ i, i ∈ own → cl i = .sh) (hl : μ'.length = μ.length) (hm : ∀ i, i ∉ own → μ'[i]? = μ[i]?) : St cl Z h (wipeP σ own) μ' r := by
  have g : ∀ i v, (wipeP σ own)[i]? = some (some v) → i ∉ own ∧ σ[i]? = some (some v) := fun i v e => by
    rw [wipeP_get] at e
    split at e
    · split at e <;> cases e
    · exact ⟨by assumption, e⟩
  refine ⟨by rw [wipeP_len, S.len, hl], fun i v c e => ?_, fun i v c e => ?_, S.rt, S.inj, S.zb⟩
  · obtain ⟨n, e⟩ := g i v e
    rw [hm i n]
    exact S.sh i v c e
  · obtain ⟨n, e⟩ := g i v e
    rw [hm i n]
    exact S.ow i v c e
theorem Fr.wipe {own : List Nat} (S : St cl Z h σ μ r) (ho : ∀ i, i ∈ own → cl i = .sh) : Fr Z h σ r Z h (wipeP σ own) r :=
  ⟨fun _ z => z, Nat.le_refl _, fun _ _ e _ => e, fun _ z => .inl z, fun i e => by
    rw [wipeP_get, if_neg]
    · exact e
    · intro z
      obtain ⟨m, _, y⟩ := S.sh i _ (ho i z) e
      cases y⟩
theorem restP_len {σ0 : PS} : ∀ {own : List Nat} {σ : PS}, (restP σ0 own σ).length = σ.length
  | [], σ => rfl
  | v :: vs, σ => by simp [restP, restP_len]
theorem restP_get {σ0 : PS} : ∀ {own : List Nat} {σ : PS} {i : Nat}, (restP σ0 own σ)[i]? = if i ∈ own then (if i < σ.length then some (σ0[i]?).join else none) else σ[i]?
  | [], σ, i => by simp [restP]
  | v :: vs, σ, i => by
    simp only [restP]
    by_cases c : i = v
    · subst c
      by_cases lt : i < σ.length
      · rw [List.getElem?_set_self (by rw [restP_len]; exact lt)]; simp [lt]
      · rw [List.getElem?_eq_none (by rw [List.length_set, restP_len]; omega)]; simp [lt]
    · rw [List.getElem?_set_ne (fun z => c z.symm), restP_get]
      simp [c]
theorem St.rest {own : List Nat} {σ0 : PS} (S : St cl Z h (wipeP σ own) μ r) (ho : ∀ i, i ∈ own → cl i = .sh) (h0 : ∀ (i : Nat) (v : PV), i ∈ own → σ0[i]? = some (some v) → ∃ m, μ[i]? = some (some m) ∧ Rd (NN Z r) h m v) : St cl Z h (restP σ0 own σ) μ r := by
  have g : ∀ i v, (restP σ0 own σ)[i]? = some (some v) → (i ∈ own ∧ σ0[i]? = some (some v)) ∨ (wipeP σ own)[i]? = some (some v) := fun i v e => by
    rw [restP_get] at e
    split at e
    · rename_i hi
      split at e
      · left
        refine ⟨hi, ?_⟩
        simp only [Option.some.injEq] at e
        cases q : σ0[i]? with
        | none => rw [q] at e; cases e
        | some x => rw [q] at e; simp at e; subst e; rfl
      · cases e
    · rename_i hi
      right
      rw [wipeP_get, if_neg hi]
      exact e
  refine ⟨by rw [restP_len, ← S.len, wipeP_len], fun i v c e => ?_, fun i v c e => ?_, S.rt, S.inj, S.zb⟩
  · rcases g i v e with ⟨a, b⟩ | b
    · exact h0 i v a b
    · exact S.sh i v c b
  · rcases g i v e with ⟨a, b⟩ | b
    · exact absurd (ho i a) c
    · exact S.ow i v c b
/-! ### a comprehension -/
theorem comp_ok' {it : It} {xs : List PV} {own : List Nat} {x y : PV} {stepM : MV → MH → R (Option MV)} {stepP : PV → PS → Q (Option PV)} (hm : ∀ N h, Ct N h m x → Ct N h n y → ∃ ms, it.items h = some ms ∧ Rds N h ms xs)
    (ho : ∀ i, i ∈ own → cl i = .sh) (hl : xs.length ≤ lineM)
    (hs : ∀ h σ r mv v, St cl Z h (wipeP σ own) μ r → Rd (NN Z r) h mv v → ∀ ov σ', stepP v σ = .ok ov σ' → ∃ om h' r', stepM mv h = .ok om h' ∧ St cl Z h' (wipeP σ' own) μ r' ∧ Fr Z h (wipeP σ own) r Z h' (wipeP σ' own) r' ∧
      match ov, om with
      | none, none => True
      | some v', some m' => Rd (NN Z r') h' m' v'
      | _, _ => False) :
    ∀ (rest pre : List PV) (i : Nat) (acc : List MV) (accP : List PV) (h : MH) (σ : PS) (r : Nat → Option Nat), xs = pre ++ rest → pre.length = i → St cl Z h (wipeP σ own) μ r → Src Z h r m x → Src Z h r n y → Rds (NN Z r) h acc accP → acc.length ≤ i →
      ∀ vs σ', compP stepP rest σ = .ok vs σ' → ∃ ms h' r', compGo it stepM rest.length i acc h = .ok ms h' ∧ St cl Z h' (wipeP σ' own) μ r' ∧ Fr Z h (wipeP σ own) r Z h' (wipeP σ' own) r' ∧ Rds (NN Z r') h' ms (accP ++ vs) := by
  intro rest
  induction rest with
  | nil =>
    intro pre i acc accP h σ r ex ei S sa sb ra la vs σ' e
    simp only [compP] at e
    cases e
    obtain ⟨ms, e1, e2⟩ := hm _ _ sa.ct sb.ct
    have : ms.length = i := by rw [e2.length, ex, ← ei]; simp
    refine ⟨acc, h, r, ?_, S, .refl, by simpa using ra⟩
    simp only [compGo, List.length_nil, doneI, e1, this, beq_self_eq_true, if_true]
  | cons v rest ih =>
    intro pre i acc accP h σ r ex ei S sa sb ra la vs σ' e
    simp only [compP] at e
    obtain ⟨ov, σ1, e1, e⟩ := qbind_ok e
    obtain ⟨ys, σ2, e2, e⟩ := qbind_ok e
    cases e
    obtain ⟨ms, f1, f2⟩ := hm _ _ sa.ct sb.ct
    have lx : ms.length = i + (rest.length + 1) := by rw [f2.length, ex, ← ei]; simp
    obtain ⟨mv, g1, g2⟩ := f2.get (i := i) (v := v) (by rw [ex, ← ei]; simp)
    have et : turnI it h i (rest.length + 1) = some mv := by simp only [turnI, f1, Option.bind_some, lx, if_true, g1]
    obtain ⟨om, h1, r1, q1, S1, F1, q2⟩ := hs h σ r mv v S g2 ov σ1 e1
    have sa1 := sa.step S F1
    have sb1 := sb.step S F1
    have ra1 := ra.mono F1.q
    have room : acc.length < lineM := by
      have : xs.length = i + (rest.length + 1) := by rw [ex, ← ei]; simp
      omega
    cases ov with
    | none =>
      cases om with
      | some _ => exact q2.elim
      | none =>
        obtain ⟨ms2, h2, r2, q3, S2, F2, q4⟩ := ih (pre ++ [v]) (i + 1) acc accP h1 σ1 r1 (by rw [ex]; simp) (by simp [ei]) S1 sa1 sb1 ra1 (by omega) ys _ e2
        exact ⟨ms2, h2, r2, by simp only [compGo, List.length_cons, et, q1, Mn.R.bind, q3], S2, F1.trans S1 F2, by simpa using q4⟩
    | some v' =>
      cases om with
      | none => exact q2.elim
      | some m' =>
        obtain ⟨ms2, h2, r2, q3, S2, F2, q4⟩ := ih (pre ++ [v]) (i + 1) (acc ++ [m']) (accP ++ [v']) h1 σ1 r1 (by rw [ex]; simp) (by simp [ei]) S1 sa1 sb1 (ra1.append (.cons q2 .nil)) (by simp; omega) ys _ e2
        exact ⟨ms2, h2, r2, by simp only [compGo, List.length_cons, et, q1, Mn.R.bind, room, if_true, q3], S2, F1.trans S1 F2, by simpa using q4⟩
end
end Mn

set_option autoImplicit false
set_option maxHeartbeats 2000000
/-! Pw: comprehensions, calls. -/
namespace Mn
open PySem L2
theorem lcOk_ok {cl : Nat → Cls} {tg : MT} {own : List Nat} (e : lcOk cl tg own = true) : (∀ i, i ∈ tg.slots → i ∈ own) ∧ ∀ i, i ∈ own → cl i = .sh := by
  simp only [lcOk, Bool.and_eq_true, List.all_eq_true, decide_eq_true_eq] at e
  exact ⟨fun i q => by simpa using e.1 i q, e.2⟩
theorem forceQ_ok {cl : Nat → Cls} {o : Opd} {σ σ' : PS} {v : PV} (e : forceQ cl o σ = .ok v σ') : ∃ o', force cl o σ = some (o', σ') ∧ v = o'.v := by
  unfold forceQ at e
  split at e
  · cases e; exact ⟨_, by assumption, rfl⟩
  · cases e
section
variable {X : CQ} {M : Cm} {a b elt : ME} {es ifs : List ME}
theorem se'_lc {tg : MT} {ik : IK} {own : List Nat} (ha : SE' X M a) (hb : SE' X M b) (hi : STs' X M ifs) (he : SE' X M elt) : SE' X M (.lc elt tg ik a b ifs own) := by
  intro Z h σ μ r S o σ' e
  simp only [evP] at e
  obtain ⟨oa, σ1, e1, e⟩ := qbind_ok e
  obtain ⟨ob, σ2, e2, e⟩ := qbind_ok e
  obtain ⟨m, h1, n, h2, r2, Z2, q1, q2, S2, F2, T1, T2⟩ := two_ok ha hb S e1 e2
  split at e
  · rename_i x y xs σ3 e3
    split at e
    · rename_i hc
      obtain ⟨vs, σ5, e5, e⟩ := qbind_ok e
      cases e
      unfold compQ at e5
      obtain ⟨vs4, σ4, e4, e5⟩ := qbind_ok e5
      cases e5
      simp only [Bool.and_eq_true, decide_eq_true_eq] at hc
      obtain ⟨hsl, hown⟩ := lcOk_ok hc.1
      obtain ⟨r3, Z3, Zm, S3, F3, sa, sb, z1, z2, ka, kb, eit, lk1, nl⟩ := src_ok S2 F2.zz T1 T2 e3
      obtain ⟨it, eq, hm⟩ := it_ok sa.ct sb.ct eit
      obtain ⟨mxs, f1, f2⟩ := hm _ _ sa.ct sb.ct
      have S3w := S3.wipe (μ' := μ) hown rfl (fun _ _ => rfl)
      obtain ⟨ms, h4, r4, q3, S4, F4, R4⟩ := comp_ok' (Z := Z3) (μ := μ) (own := own) (it := it) (m := m) (n := n) (x := x) (y := y) (cl := X.cl)
        (stepM := fun v h => lcStep (asgT tg v (wipeM μ own)) (fun σ h => evTs M ifs σ h) (fun σ h => evE M elt σ h) h) hm hown hc.2 (by
          intro h σ r mv v S g ov σ' e
          have Si : St X.cl Z3 h (wipeP σ own) (wipeM μ own) r := by
            have := S.wipe (μ' := wipeM μ own) hown wipeM_len (fun i n => wipeM_get n)
            have ww : wipeP (wipeP σ own) own = wipeP σ own := by
              apply List.ext_getElem?
              intro i
              rw [wipeP_get, wipeP_get, wipeP_len]
              split <;> rfl
            rw [ww] at this
            exact this
          unfold lcStepP at e
          split at e
          · rename_i σa ea
            obtain ⟨μ1, r1, g1, S1, F1, k1, d1, l1⟩ := asgq_ok tg Si g ea
            obtain ⟨b, σb, eb, e⟩ := qbind_ok e
            obtain ⟨hb', rb, g2, Sb, Fb⟩ := hi Z3 h σa μ1 r1 S1 b σb eb
            have back : ∀ {h σ r}, St X.cl Z3 h σ μ1 r → St X.cl Z3 h (wipeP σ own) μ r := fun s => s.wipe hown (by rw [l1, wipeM_len]) (fun i n => by rw [(d1 i (fun z => n (hsl i z))).1, wipeM_get n])
            have F1b := F1.trans S1 Fb
            cases b with
            | false =>
              cases e
              exact ⟨none, hb', rb, by simp only [lcStep, g1, g2, Mn.R.bind], back Sb, F1b.trans Sb (Fr.wipe Sb hown), trivial⟩
            | true =>
              dsimp only at e
              obtain ⟨yv, σc, ec, e⟩ := qbind_ok e
              cases e
              obtain ⟨oe, σd, ed, ec⟩ := qbind_ok ec
              obtain ⟨o', ef, rfl⟩ := forceQ_ok ec
              obtain ⟨me, he', re, Ze, g3, Se, Fe, Te⟩ := he Z3 hb' σb μ1 rb Sb oe σd ed
              obtain ⟨rf, Zf, Sf, Ff, Tf, nb⟩ := force_ok Se Fe.zz Te ef
              have Fef := Fe.trans Se Ff
              have Rv := Tf.frz Sf Fef.zz nb
              have Sw := Sf.weak Fef.zz
              have Fw := Fef.weak (Z2 := Z3) (fun _ z => z) Fef.zz
              exact ⟨some me, he', rf, by simp only [lcStep, g1, g2, g3, Mn.R.bind], back Sw, (F1b.trans Sb Fw).trans Sw (Fr.wipe Sw hown), Rv⟩
          · cases e)
        xs [] 0 [] [] h2 σ3 r3 rfl rfl S3w sa sb .nil (Nat.le_refl _) _ σ4 e4
      simp only [evE, q1, q2, Mn.R.bind, eq, f1]
      rw [f2.length, q3]
      simp only [List.nil_append] at R4
      have F34 := (Fr.wipe S3 hown).trans S3w F4
      have S4r := S4.rest (σ0 := σ3) hown fun i v hi ev => by
        obtain ⟨mm, g1, g2⟩ := S3.sh i v (hown i hi) ev
        exact ⟨mm, g1, F34.rd g2⟩
      have F34r : Fr Z3 h2 σ3 r3 Z3 h4 (restP σ3 own σ4) r4 := ⟨F34.zz, F34.len, F34.same, F34.nn, fun i z => by
        have := F34.lk i z
        rw [wipeP_get] at this
        rw [restP_get]
        split at this
        · split at this <;> cases this
        · rename_i hn; rw [if_neg hn]; exact this⟩
      obtain ⟨r5, S5, up⟩ := unsrc_ok S4r z1 z2 (ka.step S3 F34r (fun _ _ => rfl) z2) (kb.step S3 F34r (fun _ _ => rfl) (fun _ z => z))
      have F5 : Fr Z h σ r Z2 h4 (unlockO oa x (unlockO ob y (restP σ3 own σ4))) r5 := by
        have Fa := F2.trans S2 (F3.trans S3 F34r)
        refine ⟨F2.zz, Fa.len, Fa.same, fun a z => Fa.nn a (up a z), fun i z => ?_⟩
        exact unlock_lk nl (fun i z => (F3.trans S3 F34r).lk i z) i (F2.lk i z)
      exact RE.fin S5 F5 ⟨ms, rfl, R4.weak fun a z => up a (NN.weak F2.zz a z)⟩
    · cases e
  · cases e
end
/-! ### calls -/
inductive PF (N : Nat → Prop) (h : MH) : List PK → List MV → List PV → List (Option Nat) → Prop
  | nil : PF N h [] [] [] []
  | pl {m : MV} {v : PV} {ks : List PK} {ms : List MV} {vs : List PV} {ts : List (Option Nat)} : Rd N h m v → PF N h ks ms vs ts → PF N h (.pl :: ks) (m :: ms) (v :: vs) (none :: ts)
  | rt {k : PK} {t : Nat} {v : PV} {ks : List PK} {ms : List MV} {vs : List PV} {ts : List (Option Nat)} : k ≠ .pl → Rt N h t v → PF N h ks ms vs ts → PF N h (k :: ks) (.ref t :: ms) (v :: vs) (some t :: ts)
  | fz {k : PK} {m : MV} {v : PV} {ks : List PK} {ms : List MV} {vs : List PV} {ts : List (Option Nat)} : k ≠ .pl → (k = .io → isLD v = false) → Rd N h m v → PF N h ks ms vs ts → PF N h (k :: ks) (m :: ms) (v :: vs) (none :: ts)
/-- Z and the parameters' roots -/
def TN (Z : Nat → Prop) (ts : List (Option Nat)) : Nat → Prop := fun a => Z a ∨ some a ∈ ts
structure CallR (Z : Nat → Prop) (h : MH) (pk : List PK) (ms : List MV) (ts : List (Option Nat)) (o : Opd) (ios : List PV) (m : MV) (h' : MH) (Z' : Nat → Prop) : Prop where
  zz : ∀ a, Z a → Z' a
  zb : ∀ a, Z' a → a < h'.length
  zn : ∀ a, Z' a → Z a ∨ h.length ≤ a
  len : h.length ≤ h'.length
  same : ∀ a x, h[a]? = some x → some a ∉ ts → h'[a]? = some x
  pf : PF (TN Z' ts) h' pk ms ios ts
  res : match o with
    | .val v => Rd (TN Z' ts) h' m v
    | .own v => ∃ t, m = .ref t ∧ Z' t ∧ ¬ Z t ∧ Rt (TN Z' ts) h' t v
    | .bor _ => False
def CallOk (X : CQ) (call : Str → List MV → MH → R MV) : Prop := ∀ f pk fr, X.sig f = some (pk, fr) → ∀ vs o ios, X.call f vs = .ok o ios → ∀ Z h ms ts, PF (TN Z ts) h pk ms vs ts → (∀ a, Z a → a < h.length) → (ts.filterMap id).Nodup → (∀ t, some t ∈ ts → ¬ Z t) →
  ∃ m h' Z', call f ms h = .ok m h' ∧ CallR Z h pk ms ts o ios m h' Z'
section
variable {cl : Nat → Cls} {Z Z' Z1 Z2 Z0 : Nat → Prop} {h h' h1 h2 : MH} {σ σ' σ1 σ2 : PS} {μ μ' : MS'} {r r' r1 r2 : Nat → Option Nat} {o o' p : Opd} {m m' n : MV} {v : PV}
/-- how the arguments' variables are put back -/
inductive Lnk (cl : Nat → Cls) (μ : MS') (σ : PS) : List PK → List Opd → List MV → List (Option Nat) → Prop
  | nil : Lnk cl μ σ [] [] [] []
  | skip {k : PK} {o : Opd} {m : MV} {ks : List PK} {os : List Opd} {ms : List MV} {ts : List (Option Nat)} : (k = .pl ∨ o.isB = false) → Lnk cl μ σ ks os ms ts → Lnk cl μ σ (k :: ks) (o :: os) (m :: ms) (none :: ts)
  | bor {k : PK} {i : Nat} {m : MV} {ks : List PK} {os : List Opd} {ms : List MV} {t : Option Nat} {ts : List (Option Nat)} : k ≠ .pl → cl i ≠ .sh → μ[i]? = some (some m) → (k = .br → t = none → cl i = .bf ∨ ∀ a, m ≠ .ref a) → σ[i]? ≠ some (some PV.lck) → Lnk cl μ σ ks os ms ts → Lnk cl μ σ (k :: ks) (.bor i :: os) (m :: ms) (t :: ts)
theorem Lnk.mono (q : ∀ i : Nat, σ[i]? = some (some PV.lck) → σ1[i]? = some (some PV.lck)) {ks : List PK} {os : List Opd} {ms : List MV} {ts : List (Option Nat)} (x : Lnk cl μ σ1 ks os ms ts) : Lnk cl μ σ ks os ms ts := by
  induction x with
  | nil => exact .nil
  | skip a _ ih => exact .skip a ih
  | bor a b c d e _ ih => exact .bor a b c d (fun z => e (q _ z)) ih
theorem PF.weak {N N' : Nat → Prop} (q : ∀ a, N' a → N a) {ks : List PK} {ms : List MV} {vs : List PV} {ts : List (Option Nat)} (x : PF N h ks ms vs ts) : PF N' h ks ms vs ts := by
  induction x with
  | nil => exact .nil
  | pl a _ ih => exact .pl (a.weak q) ih
  | rt a b _ ih => exact .rt a (b.weak q) ih
  | fz a b c _ ih => exact .fz a b (c.weak q) ih
theorem TOs.grow {t : Nat} (n : ¬ Z t) {os : List Opd} {ms : List MV} (x : TOs cl Z0 Z h μ r os ms) : TOs cl (fun a => Z0 a ∨ a = t) Z h μ r os ms := by
  induction x with
  | nil => exact .nil
  | @cons o m os ms a _ ih =>
    refine .cons ?_ ih
    cases o with
    | val v => exact a
    | own v => obtain ⟨t', e, a1, a2, a3⟩ := a; exact ⟨t', e, a1, fun z => by
        rcases z with z | rfl
        · exact a2 z
        · exact n a1, a3⟩
    | bor i => exact a
theorem Rd.ref_ld {N : Nat → Prop} {h : MH} {a : Nat} {v : PV} (x : Rd N h (.ref a) v) : isLD v = true := by cases x <;> rfl
theorem Rd.nref_ld {N : Nat → Prop} {h : MH} {m : MV} {v : PV} (x : Rd N h m v) (n : ∀ a, m ≠ .ref a) : isLD v = false := by cases x <;> first | rfl | exact absurd rfl (n _)
theorem args_ok {ks : List PK} : ∀ {os : List Opd} {σ : PS} {vs : List PV} {σ1 : PS}, argsP cl ks os σ = some (vs, σ1) → ∀ {Z0 Z : Nat → Prop} {r : Nat → Option Nat} {ms : List MV}, St cl Z h σ μ r → (∀ a, Z0 a → Z a) → TOs cl Z0 Z h μ r os ms →
    ∃ r1 Z1 ts, St cl Z1 h σ1 μ r1 ∧ Fr Z h σ r Z1 h σ1 r1 ∧ (∀ t, some t ∈ ts → Z1 t ∧ ¬ Z t) ∧ (ts.filterMap id).Nodup ∧ PF (TN (NN Z0 r1) ts) h ks ms vs ts ∧ Lnk cl μ σ ks os ms ts := by
  induction ks with
  | nil =>
    intro os σ vs σ1 e Z0 Z r ms S z T
    cases os with
    | cons _ _ => simp [argsP] at e
    | nil =>
      cases T
      simp only [argsP, Option.some.injEq, Prod.mk.injEq] at e
      obtain ⟨rfl, rfl⟩ := e
      exact ⟨r, Z, [], S, .refl, fun t q => (by cases q), by simp, .nil, .nil⟩
  | cons k ks ih =>
    intro os σ vs σ1 e Z0 Z r ms S z T
    cases os with
    | nil => simp [argsP] at e
    | cons o os =>
      cases T with
      | @cons _ m _ ms a b =>
        have mapd : ∀ {σh : PS} {v : PV}, (argsP cl ks os σh).map (fun p => (v :: p.1, p.2)) = some (vs, σ1) → ∃ vs', argsP cl ks os σh = some (vs', σ1) ∧ vs = v :: vs' := fun {σh v} q => by
          cases y : argsP cl ks os σh with
          | none => rw [y] at q; cases q
          | some p => rw [y] at q; simp only [Option.map_some, Option.some.injEq, Prod.mk.injEq] at q; exact ⟨p.1, by rw [← q.2], q.1.symm⟩
        -- an argument taken as a value
        have plain : ∀ {o1 : Opd} {σh : PS} {vs' : List PV} {rh Zh}, k = .pl ∨ o.isB = false → St cl Zh h σh μ rh → Fr Z h σ r Zh h σh rh → TO cl Z0 Zh h μ rh o1 m → o1.isB = false → argsP cl ks os σh = some (vs', σ1) → vs = o1.v :: vs' →
            ∃ r1 Z1 ts, St cl Z1 h σ1 μ r1 ∧ Fr Z h σ r Z1 h σ1 r1 ∧ (∀ t, some t ∈ ts → Z1 t ∧ ¬ Z t) ∧ (ts.filterMap id).Nodup ∧ PF (TN (NN Z0 r1) ts) h (k :: ks) (m :: ms) vs ts ∧ Lnk cl μ σ (k :: ks) (o :: os) (m :: ms) ts ∨ (k = .io) := fun {o1 σh vs' rh Zh} hk Sh Fh To nb ea ev => by
          obtain ⟨r1, Z1, ts, S1, F1, ht, nd, pf, lk⟩ := ih ea Sh (fun a q => Fh.zz a (z a q)) (b.step S Fh)
          by_cases ki : k = .io
          · exact ⟨r, Z, [], .inr ki⟩
          refine ⟨r1, Z1, none :: ts, .inl ⟨S1, Fh.trans Sh F1, fun t q => ?_, by simpa using nd, ?_, .skip hk (lk.mono Fh.lk)⟩⟩
          · have := ht t (by simpa using q)
            exact ⟨this.1, fun y => this.2 (Fh.zz t y)⟩
          · have To1 := To.step Sh F1
            have rd : Rd (TN (NN Z0 r1) (none :: ts)) h m o1.v := by
              have sub : ∀ a, TN (NN Z0 r1) (none :: ts) a → NN Z1 r1 a := fun a y => by
                rcases y with (y | y) | y
                · exact .inl (F1.zz a (Fh.zz a (z a y)))
                · exact .inr y
                · exact .inl (ht a (by simpa using y)).1
              cases o1 with
              | val v => exact Rd.weak sub To1
              | bor i => cases nb
              | own v =>
                obtain ⟨t, e1, _, _, e2⟩ := To1
                obtain ⟨t', e3, a1, a2, _⟩ := To
                rw [e1] at e3
                cases e3
                subst e1
                refine (e2.weak sub).frz fun y => ?_
                rcases y with (y | ⟨i, y⟩) | y
                · exact a2 y
                · exact (S1.rt i t y).2.2 (F1.zz t a1)
                · exact (ht t (by simpa using y)).2 a1
            have pf' : PF (TN (NN Z0 r1) (none :: ts)) h ks ms vs' ts := pf.weak fun a y => by
              rcases y with y | y
              · exact .inl y
              · exact .inr (by simpa using y)
            subst ev
            by_cases kp : k = .pl
            · subst kp; exact .pl rd pf'
            · exact .fz kp (fun q => absurd q ki) rd pf'
        -- an argument that is a variable's own
        have shut : ∀ {i : Nat} {v : PV} {vs' : List PV}, o = .bor i → k ≠ .pl → (k = .io → isLD v = false → True) → (k = .br → (cl i ≠ .ow ∧ cl i ≠ .io) ∨ isLD v = true) → (k = .io → cl i ≠ .bf) → rdV σ i = some v → argsP cl ks os (σ.set i (some .lck)) = some (vs', σ1) → vs = v :: vs' →
            ∃ r1 Z1 ts, St cl Z1 h σ1 μ r1 ∧ Fr Z h σ r Z1 h σ1 r1 ∧ (∀ t, some t ∈ ts → Z1 t ∧ ¬ Z t) ∧ (ts.filterMap id).Nodup ∧ PF (TN (NN Z0 r1) ts) h (k :: ks) (m :: ms) vs ts ∧ Lnk cl μ σ (k :: ks) (o :: os) (m :: ms) ts := fun {i v vs'} eo kp _ kb kio er ea ev => by
          subst eo
          have el : lockO (.bor i) σ = some (v, σ.set i (some .lck)) := by simp only [lockO, er, Option.map_some]
          obtain ⟨rh, Zh, Sh, Fh, sh, kh, nh⟩ := lock_ok S z a el
          obtain ⟨c1, c2, c3⟩ := kh
          rcases c3 with ⟨t, rfl, d2, d3, d4⟩ | ⟨d1, d2⟩
          · have Tg := (b.grow (t := t) d3).step S Fh
            obtain ⟨r1, Z1, ts, S1, F1, ht, nd, pf, lk⟩ := ih ea Sh (fun a q => by
              rcases q with q | rfl
              · exact Fh.zz a (z a q)
              · exact d2) Tg
            refine ⟨r1, Z1, some t :: ts, S1, Fh.trans Sh F1, fun t' q => ?_, ?_, ?_, .bor kp c1 c2 (fun _ q => by cases q) (rdV_nlk er) (lk.mono Fh.lk)⟩
            · rcases List.mem_cons.mp q with q | q
              · cases q; exact ⟨F1.zz _ d2, d3⟩
              · exact ⟨(ht t' q).1, fun y => (ht t' q).2 (Fh.zz t' y)⟩
            · simp only [List.filterMap_cons, id, List.nodup_cons]
              refine ⟨fun q => ?_, nd⟩
              obtain ⟨x, q1, q2⟩ := List.mem_filterMap.mp q
              simp only [id] at q2
              subst q2
              exact (ht t q1).2 d2
            · subst ev
              refine .rt kp ?_ (pf.weak fun a y => ?_)
              · have := F1.rt (fun i z => (Sh.rt i t z).2.2 d2) d4
                refine this.weak fun a y => ?_
                rcases y with (y | y) | y
                · exact .inl (F1.zz a (Fh.zz a (z a y)))
                · exact .inr y
                · rcases List.mem_cons.mp y with y | y
                  · cases y; exact .inl (F1.zz _ d2)
                  · exact .inl (ht a y).1
              · rcases y with (y | y) | y
                · exact .inl (.inl (.inl y))
                · exact .inl (.inr y)
                · rcases List.mem_cons.mp y with y | y
                  · cases y; exact .inl (.inl (.inr rfl))
                  · exact .inr y
          · obtain ⟨r1, Z1, ts, S1, F1, ht, nd, pf, lk⟩ := ih ea Sh (fun a q => Fh.zz a (z a q)) (b.step S Fh)
            have ldio : k = .io → isLD v = false := fun q => by
              rcases d2 with d2 | d2
              · exact absurd d2 (kio q)
              · exact d2
            refine ⟨r1, Z1, none :: ts, S1, Fh.trans Sh F1, fun t' q => ?_, by simpa using nd, ?_, .bor kp c1 c2 (fun q _ => ?_) (rdV_nlk er) (lk.mono Fh.lk)⟩
            · have := ht t' (by simpa using q)
              exact ⟨this.1, fun y => this.2 (Fh.zz t' y)⟩
            · subst ev
              refine .fz kp ldio ((F1.rd d1).weak fun a y => ?_) (pf.weak fun a y => ?_)
              · rcases y with (y | y) | y
                · exact .inl (F1.zz a (Fh.zz a (z a y)))
                · exact .inr y
                · exact .inl (ht a (by simpa using y)).1
              · rcases y with y | y
                · exact .inl y
                · exact .inr (by simpa using y)
            · rcases d2 with d2 | d2
              · exact .inl d2
              · exact .inr fun a ea => by subst ea; rw [d1.ref_ld] at d2; cases d2
        cases k with
        | pl =>
          simp only [argsP] at e
          split at e
          · rename_i o1 σh e1
            obtain ⟨vs', e2, e3⟩ := mapd e
            obtain ⟨rh, Zh, Sh, Fh, Th, nb⟩ := force_ok S z a e1
            obtain ⟨r1, Z1, ts, q⟩ := plain (.inl rfl) Sh Fh Th nb e2 e3
            rcases q with q | q
            · exact ⟨r1, Z1, ts, q⟩
            · cases q
          · cases e
        | io =>
          cases o with
          | val _ => simp only [argsP] at e; cases e
          | own _ => simp only [argsP] at e; cases e
          | bor i =>
            simp only [argsP] at e
            split at e
            · rename_i hc
              split at e
              · rename_i v er
                obtain ⟨vs', e2, e3⟩ := mapd e
                exact shut rfl (by intro q; cases q) (fun _ _ => trivial) (fun q => by cases q) (fun _ q => by rw [q] at hc; rcases hc with hc | hc <;> cases hc) er e2 e3
              · cases e
            · cases e
        | br =>
          cases o with
          | val w =>
            simp only [argsP] at e
            obtain ⟨vs', e2, e3⟩ := mapd e
            obtain ⟨r1, Z1, ts, q⟩ := plain (.inr rfl) S .refl a rfl e2 e3
            rcases q with q | q
            · exact ⟨r1, Z1, ts, q⟩
            · cases q
          | own w =>
            simp only [argsP] at e
            obtain ⟨vs', e2, e3⟩ := mapd e
            obtain ⟨r1, Z1, ts, q⟩ := plain (.inr rfl) S .refl a rfl e2 e3
            rcases q with q | q
            · exact ⟨r1, Z1, ts, q⟩
            · cases q
          | bor i =>
            simp only [argsP] at e
            split at e
            · rename_i v er
              split at e
              · rename_i hc
                obtain ⟨vs', e2, e3⟩ := mapd e
                exact shut rfl (by intro q; cases q) (fun _ _ => trivial) (fun _ => hc) (fun q => by cases q) er e2 e3
              · cases e
            · cases e
/-- the arguments' variables put back -/
theorem backq_ok {N' : Nat → Prop} {ks : List PK} : ∀ {os : List Opd} {ms : List MV} {ios : List PV} {ts : List (Option Nat)} {Zb : Nat → Prop} {r : Nat → Option Nat}, Lnk cl μ σ1 ks os ms ts → St cl (TN Zb ts) h σ μ r → (∀ t, some t ∈ ts → ¬ Zb t) → (ts.filterMap id).Nodup → PF N' h ks ms ios ts → (∀ a, NN (TN Zb ts) r a → N' a) →
    ∃ r2, St cl Zb h (backP ks os ios σ) μ r2 ∧ (∀ a, NN Zb r2 a → NN (TN Zb ts) r a) := by
  induction ks with
  | nil =>
    intro os ms ios ts Zb r l S ht nd pf sub
    cases l
    exact ⟨r, S.weak fun a y => .inl y, NN.weak fun a y => .inl y⟩
  | cons k ks ih =>
    intro os ms ios ts Zb r l S ht nd pf sub
    cases l with
    | @skip _ o m _ os ms ts hk l =>
      have e1 : ∀ a, TN Zb ts a → TN Zb (none :: ts) a := fun a y => by
        rcases y with y | y
        · exact .inl y
        · exact .inr (List.mem_cons_of_mem _ y)
      have e2 : ∀ {v : PV} {ios : List PV}, backP (k :: ks) (o :: os) (v :: ios) σ = backP ks os ios σ := fun {v ios} => by
        rcases hk with rfl | hk
        · cases o <;> rfl
        · cases k <;> cases o <;> first | rfl | cases hk
      have go : ∀ {v : PV} {ios : List PV}, PF N' h ks ms ios ts → ∃ r2, St cl Zb h (backP (k :: ks) (o :: os) (v :: ios) σ) μ r2 ∧ (∀ a, NN Zb r2 a → NN (TN Zb (none :: ts)) r a) := fun {v ios} pf => by
        obtain ⟨r2, S2, f⟩ := ih l (S.weak e1) (fun t q => ht t (List.mem_cons_of_mem _ q)) (by simpa using nd) pf (fun a y => sub a (NN.weak e1 a y))
        rw [e2]
        exact ⟨r2, S2, fun a y => NN.weak e1 a (f a y)⟩
      cases pf with
      | pl a pf => exact go pf
      | fz a b c pf => exact go pf
    | @bor _ i m _ os ms t ts kp c1 c2 c3 nl l =>
      have bk : ∀ {v : PV} {ios : List PV}, backP (k :: ks) (.bor i :: os) (v :: ios) σ = (backP ks os ios σ).set i (some v) := fun {v ios} => by cases k <;> first | rfl | exact absurd rfl kp
      cases pf with
      | pl a pf => exact absurd rfl kp
      | @rt _ t v _ _ ios _ a b pf =>
        have e1 : ∀ x, TN (fun a => Zb a ∨ a = t) ts x → TN Zb (some t :: ts) x := fun x y => by
          rcases y with (y | rfl) | y
          · exact .inl y
          · exact .inr (List.mem_cons_self ..)
          · exact .inr (List.mem_cons_of_mem _ y)
        simp only [List.filterMap_cons, id, List.nodup_cons] at nd
        obtain ⟨r2, S2, f⟩ := ih (Zb := fun a => Zb a ∨ a = t) l (S.weak e1) (fun t' q y => by
          rcases y with y | rfl
          · exact ht t' (List.mem_cons_of_mem _ q) y
          · exact nd.1 (List.mem_filterMap.mpr ⟨_, q, rfl⟩)) nd.2 pf (fun a y => sub a (NN.weak e1 a y))
        rw [bk]
        have up : ∀ a, NN Zb (updR r2 i (some t)) a → NN (fun a => Zb a ∨ a = t) r2 a := fun a y => NN.upd (fun _ q => .inl q) (fun t' e => by cases e; exact .inl (.inr rfl)) a y
        refine ⟨_, S2.put (i := i) (ra := some t) (w := some v) (fun _ q => .inl q) rfl (fun _ _ => rfl) (fun v' e _ => by cases e; exact ⟨_, c2, fun c => absurd c c1, fun _ => .rt t rfl rfl (b.weak fun a y => sub a (NN.weak e1 a (f a (up a y))))⟩)
          (fun t' e => by cases e; exact ⟨c1, b.lt, ht t (List.mem_cons_self ..), .inl (.inr rfl)⟩), fun a y => NN.weak e1 a (f a (up a y))⟩
      | @fz _ _ v _ _ ios _ a b d pf =>
        have e1 : ∀ a, TN Zb ts a → TN Zb (none :: ts) a := fun a y => by
          rcases y with y | y
          · exact .inl y
          · exact .inr (List.mem_cons_of_mem _ y)
        obtain ⟨r2, S2, f⟩ := ih l (S.weak e1) (fun t q => ht t (List.mem_cons_of_mem _ q)) (by simpa using nd) pf (fun a y => sub a (NN.weak e1 a y))
        rw [bk]
        have up : ∀ a, NN Zb (updR r2 i none) a → NN Zb r2 a := fun a y => NN.upd (fun _ q => q) (fun t' e => by cases e) a y
        refine ⟨_, S2.put (i := i) (ra := none) (w := some v) (fun _ q => q) rfl (fun _ _ => rfl) (fun v' e _ => by
            cases e
            refine ⟨_, c2, fun c => absurd c c1, fun _ => .fz rfl (d.weak fun a y => sub a (NN.weak e1 a (f a (up a y)))) ?_⟩
            cases k with
            | pl => exact absurd rfl kp
            | io => exact .inr (b rfl)
            | br =>
              rcases c3 rfl rfl with c3 | c3
              · exact .inl c3
              · exact .inr (d.nref_ld c3)) (fun t' e => by cases e), fun a y => NN.weak e1 a (f a (up a y))⟩
theorem back_lk {ks : List PK} : ∀ {os : List Opd} {ms : List MV} {ios : List PV} {ts : List (Option Nat)}, Lnk cl μ σ1 ks os ms ts → ∀ i : Nat, σ1[i]? = some (some PV.lck) → σ[i]? = some (some PV.lck) → (backP ks os ios σ)[i]? = some (some PV.lck) := by
  induction ks with
  | nil => intro os ms ios ts l i e1 e2; cases l; cases ios <;> exact e2
  | cons k ks ih =>
    intro os ms ios ts l i e1 e2
    cases ios with
    | nil =>
      have : backP (k :: ks) os [] σ = σ := by
        cases os with
        | nil => cases k <;> rfl
        | cons o os => cases k <;> cases o <;> rfl
      rw [this]
      exact e2
    | cons v ios =>
      cases l with
      | @skip _ o _ _ os _ _ hk l =>
        have : backP (k :: ks) (o :: os) (v :: ios) σ = backP ks os ios σ := by
          rcases hk with rfl | hk
          · cases o <;> rfl
          · cases k <;> cases o <;> first | rfl | cases hk
        rw [this]
        exact ih l i e1 e2
      | @bor _ j _ _ os _ _ _ kp c1 c2 c3 nl l =>
        have : backP (k :: ks) (.bor j :: os) (v :: ios) σ = (backP ks os ios σ).set j (some v) := by cases k <;> first | rfl | exact absurd rfl kp
        rw [this, List.getElem?_set_ne (fun q => by subst q; exact nl e1)]
        exact ih l i e1 e2
end
theorem se'_call {X : CQ} {M : Cm} {es : List ME} {f : Str} (hc : CallOk X M.call) (hs : SEs' X M es) : SE' X M (.call f es) := by
  intro Z h σ μ r S o σ' e
  simp only [evP] at e
  obtain ⟨os, σ1, e1, e⟩ := qbind_ok e
  obtain ⟨ms, h1, r1, Z1, q1, S1, F1, T⟩ := hs Z h σ μ r S os σ1 e1
  simp only [evE, q1, Mn.R.bind]
  unfold callP at e
  split at e
  · rename_i pk fr es
    split at e
    · rename_i vs σ2 e2
      obtain ⟨r2, Z2, ts, S2, F2, ht, nd, pf, lk⟩ := args_ok e2 S1 F1.zz T
      split at e
      · rename_i o' ios e3
        cases e
        have zb : ∀ a, NN Z r2 a → a < h1.length := fun a y => by
          rcases y with y | ⟨i, y⟩
          · exact S1.zb a (F1.zz a y)
          · exact (S2.rt i a y).2.1
        have nt : ∀ t, some t ∈ ts → ¬ NN Z r2 t := fun t q y => by
          rcases y with y | ⟨i, y⟩
          · exact (ht t q).2 (F1.zz t y)
          · exact (S2.rt i t y).2.2 (ht t q).1
        obtain ⟨m, h3, Zc, q3, C⟩ := hc f pk fr es vs o ios e3 (NN Z r2) h1 ms ts pf zb nd nt
        -- what is new
        let Zf : Nat → Prop := fun a => Z a ∨ (Zc a ∧ ¬ NN Z r2 a)
        have fresh : ∀ a, Zc a → ¬ NN Z r2 a → h1.length ≤ a := fun a y n => by
          rcases C.zn a y with w | w
          · exact absurd w n
          · exact w
        have roots : ∀ t, some t ∈ ts → ∃ i, r1 i = some t := fun t q => by
          rcases F2.nn t (.inl (ht t q).1) with y | y
          · rcases y with y | y
            · exact absurd y (ht t q).2
            · exact y
          · have := S2.zb t (ht t q).1; omega
        have w2 : ∀ a x, ¬ NN Z2 r2 a → h1[a]? = some x → ¬ NN (TN Zf ts) r2 a ∧ h3[a]? = some x := fun a x n ex => by
          refine ⟨fun y => ?_, C.same a x ex fun y => n (.inl (ht a y).1)⟩
          rcases y with ((y | y) | y) | y
          · exact n (.inl (F2.zz a (F1.zz a y)))
          · have := fresh a y.1 y.2; have := get_lt ex; omega
          · exact n (.inl (ht a y).1)
          · exact n (.inr y)
        have S3 : St X.cl (TN Zf ts) h3 σ2 μ r2 := by
          refine ⟨S2.len, fun i v c e => ?_, fun i v c e => ?_, fun i a e => ⟨(S2.rt i a e).1, Nat.lt_of_lt_of_le (S2.rt i a e).2.1 C.len, fun y => ?_⟩, S2.inj, fun a y => ?_⟩
          · obtain ⟨m, f1, f2⟩ := S2.sh i v c e
            exact ⟨m, f1, f2.mono w2⟩
          · obtain ⟨m, f1, f2⟩ := S2.ow i v c e
            refine ⟨m, f1, f2.mono w2 fun t et => ?_⟩
            have lt := (S2.rt i t et).2.1
            rw [List.getElem?_eq_getElem lt]
            exact C.same t _ (List.getElem?_eq_getElem lt) fun y => (S2.rt i t et).2.2 (ht t y).1
          · rcases y with (y | y) | y
            · exact (S2.rt i a e).2.2 (F2.zz a (F1.zz a y))
            · exact y.2 (.inr ⟨i, e⟩)
            · exact (S2.rt i a e).2.2 (ht a y).1
          · rcases y with (y | y) | y
            · exact Nat.lt_of_lt_of_le (S1.zb a (F1.zz a y)) C.len
            · exact C.zb a y.1
            · exact Nat.lt_of_lt_of_le (S2.zb a (ht a y).1) C.len
        have sub : ∀ a, NN (TN Zf ts) r2 a → TN Zc ts a := fun a y => by
          rcases y with ((y | y) | y) | y
          · exact .inl (C.zz a (.inl y))
          · exact .inl y.1
          · exact .inr y
          · exact .inl (C.zz a (.inr y))
        obtain ⟨r3, S4, up⟩ := backq_ok lk S3 (fun t q y => by
          rcases y with y | y
          · exact (ht t q).2 (F1.zz t y)
          · have := fresh t y.1 y.2; have := S2.zb t (ht t q).1; omega) nd C.pf sub
        have F3 : Fr Z h σ r Zf h3 (backP pk os ios σ2) r3 := by
          refine ⟨fun a y => .inl y, Nat.le_trans F1.len C.len, fun a x ex n => ?_, fun a y => ?_, fun i z => back_lk (lk.mono fun j q => q) i (F1.lk i z) ((F1.trans S1 F2).lk i z)⟩
          · refine C.same a x (F1.same a x ex n) fun y => ?_
            obtain ⟨i, y⟩ := roots a y
            rcases F1.nn a (.inr ⟨i, y⟩) with w | w
            · rcases w with w | ⟨j, w⟩
              · exact (S1.rt i a y).2.2 (F1.zz a w)
              · exact n j w
            · have := get_lt ex; omega
          · have y' := up a y
            have F12 := F1.trans S1 F2
            rcases y' with ((y | y) | y) | y
            · exact .inl (.inl y)
            · exact .inr (Nat.le_trans F1.len (fresh a y.1 y.2))
            · exact F12.nn a (.inl (ht a y).1)
            · exact F12.nn a (.inr y)
        have toN : ∀ a, NN Zf r3 a → TN Zc ts a := fun a y => sub a (up a y)
        refine ⟨m, h3, r3, Zf, q3, S4, F3, ?_⟩
        have res := C.res
        cases o with
        | val v => exact Rd.weak toN res
        | bor i => exact res.elim
        | own v =>
          obtain ⟨t, e, a, b, c⟩ := res
          exact ⟨t, e, .inr ⟨a, b⟩, fun y => b (.inl y), c.weak toN⟩
      · cases e
      · cases e
    · cases e
  · cases e
/-! ### all expressions -/
section
variable {X : CQ} {M : Cm} (hc : CallOk X M.call) (hg : M.gl = X.gl)
include hc hg
mutual
theorem se' : ∀ e : ME, SE' X M e
  | .c v => se'_c
  | .var i => se'_var
  | .glb x => se'_glb hg
  | .tup es => se'_tup (ses' es)
  | .lst es => se'_lst (ses' es)
  | .bin op a b => se'_bin (se' a) (se' b)
  | .neg a => se'_neg (se' a)
  | .not_ a => se'_not (se' a)
  | .cmp op a b => se'_cmp (se' a) (se' b)
  | .chain o1 o2 a b c => se'_chain (se' a) (se' b) (se' c)
  | .and_ a b => se'_and (se' a) (se' b)
  | .or_ a b => se'_or (se' a) (se' b)
  | .ife c a b => se'_ife (se' c) (se' a) (se' b)
  | .ix a b => se'_ix (se' a) (se' b)
  | .sl a => se'_sl (se' a)
  | .slL a b => se'_slL (se' a) (se' b)
  | .slH a b => se'_slH (se' a) (se' b)
  | .slB a b c => se'_slB (se' a) (se' b) (se' c)
  | .rev a => se'_rev (se' a)
  | .call f es => se'_call hc (ses' es)
  | .blt b es => se'_blt (ses' es)
  | .meth m a es => se'_meth (se' a) (ses' es)
  | .isi a t => se'_isi (se' a)
  | .dsp es => se'_dsp (ses' es)
  | .rngL a b => se'_rngL (se' a) (se' b)
  | .rngT a b => se'_rngT (se' a) (se' b)
  | .lc elt tg ik a b ifs own => se'_lc (se' a) (se' b) (sts' ifs) (se' elt)
theorem ses' : ∀ es : List ME, SEs' X M es
  | [] => ses'_nil
  | e :: es => ses'_cons (se' e) (ses' es)
theorem sts' : ∀ es : List ME, STs' X M es
  | [] => sts'_nil
  | e :: es => sts'_cons (se' e) (sts' es)
end
end
end Mn

set_option autoImplicit false
set_option maxHeartbeats 2000000
/-! Px: statements and functions over trees. -/
namespace Mn
open PySem L2
def RS (cl : Nat → Cls) (Z : Nat → Prop) (h : MH) (σ : PS) (μ : MS') (r : Nat → Option Nat) (fl : FlP) (σ' : PS) (R0 : R Fl) : Prop :=
  ∃ mf h' μ' r' Z', R0 = .ok mf h' ∧ St cl Z' h' σ' μ' r' ∧ Fr Z h σ r Z' h' σ' r' ∧ lkμ cl σ μ μ' ∧ (match fl with
    | .nx => mf = .nx μ' ∧ Z' = Z
    | .brk => mf = .brk μ' ∧ Z' = Z
    | .cont => mf = .cont μ' ∧ Z' = Z
    | .ret o => ∃ m, mf = .ret m ∧ TO cl Z Z' h' μ' r' o m ∧ o.isB = false)
def SS' (X : CQ) (M : Cm) (s : MS) : Prop := ∀ Z h σ μ r, St X.cl Z h σ μ r → ∀ fl σ', evT X s σ = .ok fl σ' → RS X.cl Z h σ μ r fl σ' (evS M s μ h)
def SSs' (X : CQ) (M : Cm) (ss : List MS) : Prop := ∀ Z h σ μ r, St X.cl Z h σ μ r → ∀ fl σ', evTs' X ss σ = .ok fl σ' → RS X.cl Z h σ μ r fl σ' (evSs M ss μ h)
section
variable {cl : Nat → Cls} {Z Z' Z1 Z2 Z0 : Nat → Prop} {h h' h1 h2 : MH} {σ σ' σ1 σ2 : PS} {μ μ' μ1 : MS'} {r r' r1 r2 : Nat → Option Nat} {o o' p : Opd} {m m' n : MV} {v : PV} {R0 : R Fl} {fl : FlP}
theorem RS.after (S1 : St cl Z h1 σ1 μ1 r1) (F1 : Fr Z h σ r Z h1 σ1 r1) (k : lkμ cl σ μ μ1) (x : RS cl Z h1 σ1 μ1 r1 fl σ2 R0) : RS cl Z h σ μ r fl σ2 R0 := by
  obtain ⟨mf, h', μ', r', Z', e, S, F, k2, q⟩ := x
  exact ⟨mf, h', μ', r', Z', e, S, F1.trans S1 F, k.trans F1.lk k2, q⟩
theorem RS.nx (S1 : St cl Z h1 σ1 μ1 r1) (F1 : Fr Z h σ r Z h1 σ1 r1) (k : lkμ cl σ μ μ1) : RS cl Z h σ μ r .nx σ1 (.ok (.nx μ1) h1) := ⟨_, h1, μ1, r1, Z, rfl, S1, F1, k, rfl, rfl⟩
theorem RS.ret (S1 : St cl Z1 h1 σ1 μ r1) (F1 : Fr Z h σ r Z1 h1 σ1 r1) (T : TO cl Z Z1 h1 μ r1 o m) (nb : o.isB = false) : RS cl Z h σ μ r (.ret o) σ1 (.ok (.ret m) h1) := ⟨_, h1, μ, r1, Z1, rfl, S1, F1, fun _ _ => rfl, m, rfl, T, nb⟩
theorem wk0 (S1 : St cl Z1 h1 σ1 μ r1) (F1 : Fr Z h σ r Z1 h1 σ1 r1) : St cl Z h1 σ1 μ r1 ∧ Fr Z h σ r Z h1 σ1 r1 := ⟨S1.weak F1.zz, F1.weak (fun _ z => z) F1.zz⟩
/-- a name is given what was told -/
theorem asgO_ok {tg : MT} (S : St cl Z' h σ μ r) (z : ∀ a, Z a → Z' a) (T : TO cl Z Z' h μ r o m) (e : asgO cl tg o σ = some σ') :
    ∃ μ' r', asgT tg m μ = some μ' ∧ St cl Z h σ' μ' r' ∧ Fr Z' h σ r Z' h σ r ∧ (∀ a, NN Z r' a → NN Z' r a) ∧ (∀ i : Nat, σ[i]? = some (some PV.lck) → σ'[i]? = some (some PV.lck)) ∧ lkμ cl σ μ μ' := by
  have vcase : ∀ {v : PV}, Rd (NN Z r) h m v → asgP cl tg v σ = some σ' → ∃ μ' r', asgT tg m μ = some μ' ∧ St cl Z h σ' μ' r' ∧ Fr Z' h σ r Z' h σ r ∧ (∀ a, NN Z r' a → NN Z' r a) ∧ (∀ i : Nat, σ[i]? = some (some PV.lck) → σ'[i]? = some (some PV.lck)) ∧ lkμ cl σ μ μ' := fun {v} q e => by
    obtain ⟨μ', r', e1, S1, F1, k, _, _⟩ := asgq_ok tg (S.weak z) q e
    refine ⟨μ', r', e1, S1, .refl, fun a y => ?_, F1.lk, k⟩
    rcases F1.nn a y with w | w
    · exact NN.weak z a w
    · rcases y with y | ⟨i, y⟩
      · have := S1.zb a y; omega
      · have := (S1.rt i a y).2.1; omega
  cases o with
  | bor i => simp only [asgO] at e; cases e
  | val v =>
    have e' : asgP cl tg v σ = some σ' := by cases tg <;> exact e
    exact vcase (T.frz S z rfl) e'
  | own v =>
    cases tg with
    | tp ts => simp only [asgO] at e; cases e
    | nm i =>
      simp only [asgO] at e
      split at e
      · rename_i hc
        exact vcase (v := v) (T.frz S z rfl) (by simp only [asgP, hc]; exact e)
      · rename_i hc
        split at e
        · cases e
        · rename_i nl
          cases e
          obtain ⟨t, rfl, a1, a2, a3⟩ := T
          have up : ∀ a, NN Z (updR r i (some t)) a → NN Z' r a := fun a y => NN.upd z (fun t' e => by cases e; exact .inl a1) a y
          have S2 := S.put (Z := Z) (i := i) (ra := some t) (w := some v) (μ' := μ.set i (some (.ref t))) z (by simp) (fun j n => List.getElem?_set_ne (fun z => n z.symm)) (fun v' ev lt => by
            cases ev; exact ⟨_, List.getElem?_set_self lt, fun c => (by rw [hc] at c; cases c), fun n => .rt t rfl rfl (a3.weak up)⟩) (fun t' et => by cases et; exact ⟨fun c => (by rw [hc] at c; cases c), a3.lt, a2, .inl a1⟩)
          refine ⟨_, _, rfl, S2, .refl, up, set_lk (.inl nl), fun j z => ?_⟩
          rw [List.getElem?_set_ne]; intro c; subst c; rcases z with z | z | z | z
          · exact nl z
          all_goals (rw [hc] at z; cases z)
      · cases e
theorem force_ok2 (S : St cl Z' h σ μ r) (z : ∀ a, Z a → Z' a) (x : TO cl Z Z' h μ r o m) (e : force cl o σ = some (o', σ')) :
    ∃ r2 Z2, St cl Z2 h σ' μ r2 ∧ Fr Z' h σ r Z2 h σ' r2 ∧ TO cl Z Z2 h μ r2 o' m ∧ o'.isB = false := force_ok S z x e
end
section
variable {X : CQ} {M : Cm} {a b c : ME} {s : MS} {ss ts : List MS}
theorem ss'_asg {tg : MT} (ha : SE' X M a) : SS' X M (.asg tg a) := by
  intro Z h σ μ r S fl σ' e
  simp only [evT] at e
  obtain ⟨o, σ1, e1, e⟩ := qbind_ok e
  obtain ⟨m, h1, r1, Z1, q1, S1, F1, T1⟩ := ha Z h σ μ r S o σ1 e1
  unfold asgF at e
  split at e
  · rename_i σ3 e2
    cases e
    split at e2
    · rename_i o2 σ2 e3
      obtain ⟨r2, Z2, S2, F2, T2, nb⟩ := force_ok S1 F1.zz T1 e3
      have F12 := F1.trans S1 F2
      obtain ⟨μ', r', e4, S3, _, up, lk, k⟩ := asgO_ok S2 F12.zz T2 e2
      simp only [evS, q1, Mn.R.bind, e4, Option.map_some, ofO]
      exact RS.nx S3 ⟨fun _ z => z, F12.len, F12.same, fun a y => F12.nn a (up a y), fun i z => lk i (F12.lk i z)⟩ fun i z => k i (z.imp (F12.lk i) id)
    · cases e2
  · cases e
theorem ss'_asgSub (ha : SE' X M a) (hb : SE' X M b) (hc : SE' X M c) : SS' X M (.asgSub a b c) := by
  intro Z h σ μ r S fl σ' e
  simp only [evT] at e
  obtain ⟨oe, σ1, e1, e⟩ := qbind_ok e
  obtain ⟨ob, σ2, e2, e⟩ := qbind_ok e
  obtain ⟨oi, σ3, e3, e⟩ := qbind_ok e
  obtain ⟨m, h1, r1, Z1, q1, S1, F1, T1⟩ := hc Z h σ μ r S oe σ1 e1
  obtain ⟨n, h2, k, h3, r3, Z3, q2, q3, S3, F3, T2, T3⟩ := two_ok ha hb S1 e2 e3
  split at e
  · rename_i v σ4 e4
    have F13 := F1.trans S1 F3
    obtain ⟨r4, Z4, S4, F4, T4, nb⟩ := force_ok S3 F13.zz (T1.step S1 F3) e4
    have F14 := F13.trans S3 F4
    cases ob with
    | val _ => cases e
    | own _ => cases e
    | bor j =>
    cases e5 : lookO σ4 oi with
    | none => rw [e5] at e; cases e
    | some y =>
      rw [e5] at e
      dsimp only at e
      split at e
      · rename_i hcan
        split at e
        · rename_i x' e6
          cases e
          cases q : rdV σ4 j with
          | none => rw [q] at e6; cases e6
          | some x =>
            rw [q] at e6
            have e6' : setV x y v.v = some x' := e6
            obtain ⟨Sz, Fz⟩ := wk0 S4 F14
            have ld : isLD x = true := by cases x <;> first | rfl | cases e6'
            obtain ⟨t, rt1, rfl, rt2⟩ := Sz.root hcan q T2.2 ld
            have cy := ((T3.base F1.zz).step S3 F4).ct S4 F14.zz e5
            obtain ⟨ob', e7, e8⟩ := set_ok rt2 cy (T4.frz S4 F14.zz nb) e6'
            have Fm : Fr Z h3 σ4 r4 Z (h3.set t ob') (σ4.set j (some x')) r4 := Fr.mut rt1 (rdV_nlk q)
            simp only [evS, q1, q2, q3, Mn.R.bind, e7]
            exact RS.nx (Sz.mut rt1 T2.2 (by
              rcases e8 with ⟨ns, ws, a1, a2, a3⟩ | ⟨ns, ws, a1, a2, a3⟩
              · exact .inl ⟨ns, ws, a1, a2, a3⟩
              · exact .inr ⟨ns, ws, a1, a2, a3⟩)) (Fz.trans Sz Fm) fun _ _ => rfl
        · cases e
      · cases e
  · cases e
theorem ss'_expr (ha : SE' X M a) : SS' X M (.expr a) := by
  intro Z h σ μ r S fl σ' e
  simp only [evT] at e
  obtain ⟨o, σ1, e1, e⟩ := qbind_ok e
  cases e
  obtain ⟨m, h1, r1, Z1, q1, S1, F1, T1⟩ := ha Z h σ μ r S o _ e1
  simp only [evS, q1, Mn.R.bind]
  obtain ⟨Sz, Fz⟩ := wk0 S1 F1
  exact RS.nx Sz Fz fun _ _ => rfl
theorem ss'_ret (ha : SE' X M a) : SS' X M (.ret a) := by
  intro Z h σ μ r S fl σ' e
  simp only [evT] at e
  obtain ⟨o, σ1, e1, e⟩ := qbind_ok e
  obtain ⟨m, h1, r1, Z1, q1, S1, F1, T1⟩ := ha Z h σ μ r S o σ1 e1
  split at e
  · rename_i o2 σ2 e3
    cases e
    obtain ⟨r2, Z2, S2, F2, T2, nb⟩ := force_ok S1 F1.zz T1 e3
    simp only [evS, q1, Mn.R.bind]
    exact RS.ret S2 (F1.trans S1 F2) T2 nb
  · cases e
theorem ss'_retN : SS' X M .retN := by
  intro Z h σ μ r S fl σ' e
  simp only [evT] at e
  cases e
  simp only [evS]
  exact RS.ret (o := .val .non) S .refl Rd.non rfl
theorem ss'_pass : SS' X M .pass := by
  intro Z h σ μ r S fl σ' e
  simp only [evT] at e
  cases e
  simp only [evS]
  exact RS.nx S .refl fun _ _ => rfl
theorem ss'_brk : SS' X M .brk := by
  intro Z h σ μ r S fl σ' e
  simp only [evT] at e
  cases e
  simp only [evS]
  exact ⟨_, h, μ, r, Z, rfl, S, .refl, fun _ _ => rfl, rfl, rfl⟩
theorem ss'_cont : SS' X M .cont := by
  intro Z h σ μ r S fl σ' e
  simp only [evT] at e
  cases e
  simp only [evS]
  exact ⟨_, h, μ, r, Z, rfl, S, .refl, fun _ _ => rfl, rfl, rfl⟩
theorem ss'_ite (ha : SE' X M a) (h1 : SSs' X M ss) (h2 : SSs' X M ts) : SS' X M (.ite a ss ts) := by
  intro Z h σ μ r S fl σ' e
  simp only [evT] at e
  obtain ⟨o, σ1, e1, e⟩ := qbind_ok e
  obtain ⟨m, h1', r1, Z1, q1, S1, F1, T1⟩ := ha Z h σ μ r S o σ1 e1
  obtain ⟨Sz, Fz⟩ := wk0 S1 F1
  split at e
  · rename_i e2
    obtain ⟨x, l1, e4⟩ := on1_ok e2
    simp only [evS, q1, Mn.R.bind, (T1.ct S1 F1.zz l1).truth e4]
    exact (h1 Z h1' σ1 μ r1 Sz fl σ' e).after Sz Fz fun _ _ => rfl
  · rename_i e2
    obtain ⟨x, l1, e4⟩ := on1_ok e2
    simp only [evS, q1, Mn.R.bind, (T1.ct S1 F1.zz l1).truth e4]
    exact (h2 Z h1' σ1 μ r1 Sz fl σ' e).after Sz Fz fun _ _ => rfl
  · cases e
theorem sss'_nil : SSs' X M [] := by
  intro Z h σ μ r S fl σ' e
  simp only [evTs'] at e
  cases e
  simp only [evSs]
  exact RS.nx S .refl fun _ _ => rfl
theorem sss'_cons (h1 : SS' X M s) (h2 : SSs' X M ss) : SSs' X M (s :: ss) := by
  intro Z h σ μ r S fl σ' e
  simp only [evTs'] at e
  obtain ⟨f1, σ1, e1, e⟩ := qbind_ok e
  obtain ⟨mf, h', μ', r', Z', q1, S1, F1, k1, x⟩ := h1 Z h σ μ r S f1 σ1 e1
  simp only [evSs, q1, Mn.R.bind]
  cases f1 with
  | nx =>
    obtain ⟨rfl, rfl⟩ := x
    exact (h2 _ h' σ1 μ' r' S1 fl σ' e).after S1 F1 k1
  | brk => obtain ⟨rfl, rfl⟩ := x; cases e; exact ⟨_, h', μ', r', _, rfl, S1, F1, k1, rfl, rfl⟩
  | cont => obtain ⟨rfl, rfl⟩ := x; cases e; exact ⟨_, h', μ', r', _, rfl, S1, F1, k1, rfl, rfl⟩
  | ret o => obtain ⟨m, rfl, x⟩ := x; cases e; exact ⟨_, h', μ', r', _, rfl, S1, F1, k1, m, rfl, x⟩
theorem ss'_whl (ha : SE' X M a) (hs : SSs' X M ss) (hf : M.fuel = X.fuel) : SS' X M (.whl a ss) := by
  intro Z h σ μ r S fl σ' e
  simp only [evT] at e
  simp only [evS, hf]
  generalize X.fuel = n at e
  induction n generalizing h σ μ r with
  | zero => simp only [whlP] at e; cases e
  | succ n ih =>
    simp only [whlP] at e
    obtain ⟨o, σ1, e1, e⟩ := qbind_ok e
    obtain ⟨m, h1, r1, Z1, q1, S1, F1, T1⟩ := ha Z h σ μ r S o σ1 e1
    obtain ⟨Sz, Fz⟩ := wk0 S1 F1
    split at e
    · rename_i e2
      obtain ⟨x, l1, e4⟩ := on1_ok e2
      obtain ⟨f1, σ2, e5, e⟩ := qbind_ok e
      obtain ⟨mf, h2, μ2, r2, Z2, q2, S2, F2, k2, x⟩ := hs Z h1 σ1 μ r1 Sz f1 σ2 e5
      simp only [whlGo, q1, Mn.R.bind, (T1.ct S1 F1.zz l1).truth e4, q2]
      cases f1 with
      | nx =>
        obtain ⟨rfl, rfl⟩ := x
        exact ((ih h2 σ2 μ2 r2 S2 e).after S2 F2 k2).after Sz Fz fun _ _ => rfl
      | cont =>
        obtain ⟨rfl, rfl⟩ := x
        exact ((ih h2 σ2 μ2 r2 S2 e).after S2 F2 k2).after Sz Fz fun _ _ => rfl
      | brk =>
        obtain ⟨rfl, rfl⟩ := x
        cases e
        exact RS.after Sz Fz (fun _ _ => rfl) (RS.nx S2 F2 k2)
      | ret o =>
        obtain ⟨m2, rfl, x⟩ := x
        cases e
        exact RS.after Sz Fz (fun _ _ => rfl) ⟨_, h2, μ2, r2, Z2, rfl, S2, F2, k2, m2, rfl, x⟩
    · rename_i e2
      cases e
      obtain ⟨x, l1, e4⟩ := on1_ok e2
      simp only [whlGo, q1, Mn.R.bind, (T1.ct S1 F1.zz l1).truth e4]
      exact RS.nx Sz Fz fun _ _ => rfl
    · cases e
theorem for_ok' {cl : Nat → Cls} {Z : Nat → Prop} {it : It} {xs : List PV} {m n : MV} {x y : PV} {stepM : MV → MS' → MH → R Fl} {stepP : PV → PS → Q FlP} (hm : ∀ N h, Ct N h m x → Ct N h n y → ∃ ms, it.items h = some ms ∧ Rds N h ms xs)
    (hs : ∀ h σ μ r mv v, St cl Z h σ μ r → Rd (NN Z r) h mv v → ∀ fl σ', stepP v σ = .ok fl σ' → RS cl Z h σ μ r fl σ' (stepM mv μ h)) :
    ∀ (rest pre : List PV) (i : Nat) (h : MH) (σ : PS) (μ : MS') (r : Nat → Option Nat), xs = pre ++ rest → pre.length = i → St cl Z h σ μ r → Src Z h r m x → Src Z h r n y →
      ∀ fl σ', forP stepP rest σ = .ok fl σ' → RS cl Z h σ μ r fl σ' (forGo it stepM rest.length i μ h) ∧ (fl = .nx ∨ ∃ o, fl = .ret o) := by
  intro rest
  induction rest with
  | nil =>
    intro pre i h σ μ r ex ei S sa sb fl σ' e
    simp only [forP] at e
    cases e
    obtain ⟨ms, e1, e2⟩ := hm _ _ sa.ct sb.ct
    have : ms.length = i := by rw [e2.length, ex, ← ei]; simp
    simp only [forGo, List.length_nil, doneI, e1, this, beq_self_eq_true, if_true]
    exact ⟨RS.nx S .refl fun _ _ => rfl, by simp⟩
  | cons v rest ih =>
    intro pre i h σ μ r ex ei S sa sb fl σ' e
    simp only [forP] at e
    obtain ⟨f1, σ1, e1, e⟩ := qbind_ok e
    obtain ⟨ms, g1, g2⟩ := hm _ _ sa.ct sb.ct
    have lx : ms.length = i + (rest.length + 1) := by rw [g2.length, ex, ← ei]; simp
    obtain ⟨mv, g3, g4⟩ := g2.get (i := i) (v := v) (by rw [ex, ← ei]; simp)
    have et : turnI it h i (rest.length + 1) = some mv := by simp only [turnI, g1, Option.bind_some, lx, if_true, g3]
    obtain ⟨mf, h1, μ1, r1, Z1, q1, S1, F1, k1, q2⟩ := hs h σ μ r mv v S g4 f1 σ1 e1
    simp only [forGo, List.length_cons, et, q1, Mn.R.bind]
    have next : forP stepP rest σ1 = .ok fl σ' → Z1 = Z → RS cl Z h σ μ r fl σ' (forGo it stepM rest.length (i + 1) μ1 h1) ∧ (fl = .nx ∨ ∃ o, fl = .ret o) := fun e ez => by
      subst ez
      obtain ⟨x1, x2⟩ := ih (pre ++ [v]) (i + 1) h1 σ1 μ1 r1 (by rw [ex]; simp) (by simp [ei]) S1 (sa.step S F1) (sb.step S F1) fl σ' e
      exact ⟨x1.after S1 F1 k1, x2⟩
    cases f1 with
    | nx => obtain ⟨rfl, ez⟩ := q2; exact next e ez
    | cont => obtain ⟨rfl, ez⟩ := q2; exact next e ez
    | brk => obtain ⟨rfl, rfl⟩ := q2; cases e; exact ⟨RS.nx S1 F1 k1, .inl rfl⟩
    | ret o => obtain ⟨m2, rfl, q2⟩ := q2; cases e; exact ⟨⟨_, h1, μ1, r1, Z1, rfl, S1, F1, k1, m2, rfl, q2⟩, .inr ⟨o, rfl⟩⟩
theorem ss'_for {tg : MT} {ik : IK} (ha : SE' X M a) (hb : SE' X M b) (hs : SSs' X M ss) : SS' X M (.for_ tg ik a b ss) := by
  intro Z h σ μ r S fl σ' e
  simp only [evT] at e
  obtain ⟨oa, σ1, e1, e⟩ := qbind_ok e
  obtain ⟨ob, σ2, e2, e⟩ := qbind_ok e
  obtain ⟨m, h1, n, h2, r2, Z2, q1, q2, S2, F2, T1, T2⟩ := two_ok ha hb S e1 e2
  split at e
  · rename_i x y xs σ3 e3
    obtain ⟨f1, σ4, e4, e⟩ := qbind_ok e
    cases e
    obtain ⟨r3, Z3, Zm, S3, F3, sa, sb, z1, z2, ka, kb, eit, lk1, nl⟩ := src_ok S2 F2.zz T1 T2 e3
    obtain ⟨it, eq, hm⟩ := it_ok sa.ct sb.ct eit
    obtain ⟨mxs, g1, g2⟩ := hm _ _ sa.ct sb.ct
    obtain ⟨⟨mf, h4, μ4, r4, Z4, q3, S4, F4, k4, q4⟩, q5⟩ := for_ok' (Z := Z3) (cl := X.cl) (it := it) (m := m) (n := n) (x := x) (y := y) (xs := xs)
      (stepM := fun v σ h => forStep (asgT tg v σ) (fun σ h => evSs M ss σ h) h) (stepP := fun v σ => forStepP (asgP X.cl tg v σ) (fun σ => evTs' X ss σ)) hm (by
        intro h σ μ r mv v S g fl σ' e
        unfold forStepP at e
        split at e
        · rename_i σa ea
          obtain ⟨μ1, r1, g1, S1, F1, k1, _, _⟩ := asgq_ok tg S g ea
          simp only [g1, forStep]
          exact (hs Z3 h σa μ1 r1 S1 fl σ' e).after S1 F1 k1
        · cases e) xs [] 0 h2 σ3 μ r3 rfl rfl S3 sa sb _ σ4 e4
    simp only [evS, q1, q2, Mn.R.bind, eq, g1]
    rw [g2.length, q3]
    have mu : ∀ i, oa = .bor i ∨ ob = .bor i → μ4[i]? = μ[i]? := fun i hi => k4 i (.inl (lk1 i hi))
    have F24 := F3.trans S3 F4
    have F04 := F2.trans S2 F24
    have lkk : ∀ i : Nat, σ[i]? = some (some PV.lck) → (unlockO oa x (unlockO ob y σ4))[i]? = some (some PV.lck) := fun i z => unlock_lk nl (fun i z => F24.lk i z) i (F2.lk i z)
    have kmu : lkμ X.cl σ μ μ4 := fun i z => k4 i (z.imp (fun z => F3.lk i (F2.lk i z)) id)
    rcases q5 with rfl | ⟨o, rfl⟩
    · obtain ⟨rfl, rfl⟩ := q4
      obtain ⟨r5, S5, up⟩ := unsrc_ok S4 z1 z2 (ka.step S3 F4 (fun i hi => mu i (.inl hi)) z2) (kb.step S3 F4 (fun i hi => mu i (.inr hi)) (fun _ z => z))
      exact RS.nx (S5.weak F2.zz) ⟨fun _ z => z, F04.len, F04.same, fun a z => F04.nn a (up a (NN.weak F2.zz a z)), lkk⟩ kmu
    · obtain ⟨m2, rfl, T, nb⟩ := q4
      -- what is told stays its own while the walked ones are opened
      let nw : Nat → Prop := fun a => Z4 a ∧ ¬ Z3 a
      have S4' : St X.cl (fun a => Z3 a ∨ nw a) h4 σ4 μ4 r4 := S4.weak fun a y => by
        rcases y with y | y
        · exact F4.zz a y
        · exact y.1
      have sub4 : ∀ a, NN (fun a => Z3 a ∨ nw a) r4 a → NN Z4 r4 a := NN.weak fun a y => by
        rcases y with y | y
        · exact F4.zz a y
        · exact y.1
      have ka4 := ka.step S3 F4 (fun i hi => mu i (.inl hi)) z2
      have kb4 := kb.step S3 F4 (fun i hi => mu i (.inr hi)) (fun _ z => z)
      have lift : ∀ {o : Opd} {m : MV} {v : PV} {Zt Zm' : Nat → Prop}, (∀ a, Zm' a → Z3 a) → Lkj X.cl Zt Zm' o m v Z4 h4 μ4 r4 → Lkj X.cl (fun a => Zt a ∨ nw a) (fun a => Zm' a ∨ nw a) o m v (fun a => Z3 a ∨ nw a) h4 μ4 r4 := fun {o m v Zt Zm'} zs k => by
        cases o with
        | val _ => trivial
        | own _ => trivial
        | bor i =>
          obtain ⟨a, b, c⟩ := k
          refine ⟨a, b, ?_⟩
          rcases c with ⟨t, d1, d2, d3, d4⟩ | ⟨d1, d2⟩
          · exact .inl ⟨t, d1, .inl d2, fun y => by
              rcases y with y | y
              · exact d3 y
              · exact y.2 (zs t d2), d4.weak sub4⟩
          · exact .inr ⟨d1.weak sub4, d2⟩
      obtain ⟨r5, S5, up⟩ := unsrc_ok (Zt := fun a => Z2 a ∨ nw a) (Zm := fun a => Zm a ∨ nw a) (Z2 := fun a => Z3 a ∨ nw a) S4' (fun a y => y.imp (z1 a) id) (fun a y => y.imp (z2 a) id) (lift z2 ka4) (lift (fun _ y => y) kb4)
      have z03 : ∀ a, Z a → Z3 a := fun a y => F3.zz a (F2.zz a y)
      refine ⟨_, h4, μ4, r5, fun a => Z a ∨ nw a, rfl, S5.weak fun a y => y.imp (F2.zz a) id, ⟨fun a y => .inl y, F04.len, F04.same, fun a y => F04.nn a (sub4 a (up a (NN.weak (fun a y => y.imp (F2.zz a) id) a y))), lkk⟩, kmu, m2, rfl, ?_, nb⟩
      have dn : ∀ a, NN (fun a => Z a ∨ nw a) r5 a → NN Z4 r4 a := fun a y => sub4 a (up a (NN.weak (fun a y => y.imp (F2.zz a) id) a y))
      cases o with
      | val v => exact Rd.weak dn T
      | bor i => cases nb
      | own v =>
        obtain ⟨t, e, a, b, c⟩ := T
        exact ⟨t, e, .inr ⟨a, b⟩, fun y => b (z03 t y), c.weak dn⟩
  · cases e
end
section
variable {X : CQ} {M : Cm} (hc : CallOk X M.call) (hg : M.gl = X.gl) (hf : M.fuel = X.fuel)
include hc hg hf
mutual
theorem ss' : ∀ s : MS, SS' X M s
  | .asg tg e => ss'_asg (se' hc hg e)
  | .asgSub o i e => ss'_asgSub (se' hc hg o) (se' hc hg i) (se' hc hg e)
  | .expr e => ss'_expr (se' hc hg e)
  | .ret e => ss'_ret (se' hc hg e)
  | .retN => ss'_retN
  | .ite t a b => ss'_ite (se' hc hg t) (sss' a) (sss' b)
  | .for_ tg ik a b body => ss'_for (se' hc hg a) (se' hc hg b) (sss' body)
  | .whl t body => ss'_whl (se' hc hg t) (sss' body) hf
  | .pass => ss'_pass
  | .brk => ss'_brk
  | .cont => ss'_cont
theorem sss' : ∀ ss : List MS, SSs' X M ss
  | [] => sss'_nil
  | s :: ss => sss'_cons (ss' s) (sss' ss)
end
end
/-! ### functions -/
/-- the parameters' roots, by slot -/
def rOf (ts : List (Option Nat)) : Nat → Option Nat := fun i => (ts[i]?).join
theorem PF.len {N : Nat → Prop} {h : MH} {ks : List PK} {ms : List MV} {vs : List PV} {ts : List (Option Nat)} (x : PF N h ks ms vs ts) : ms.length = ks.length ∧ vs.length = ks.length ∧ ts.length = ks.length := by
  induction x with
  | nil => exact ⟨rfl, rfl, rfl⟩
  | pl _ _ ih => simp [ih]
  | rt _ _ _ ih => simp [ih]
  | fz _ _ _ _ ih => simp [ih]
theorem PF.get {N : Nat → Prop} {h : MH} {ks : List PK} {ms : List MV} {vs : List PV} {ts : List (Option Nat)} (x : PF N h ks ms vs ts) {i : Nat} {v : PV} (e : vs[i]? = some v) :
    ∃ m k, ms[i]? = some m ∧ ks[i]? = some k ∧ ((k = .pl ∧ ts[i]? = some none ∧ Rd N h m v) ∨ (k ≠ .pl ∧ ∃ t, m = .ref t ∧ ts[i]? = some (some t) ∧ Rt N h t v) ∨ (k ≠ .pl ∧ (k = .io → isLD v = false) ∧ ts[i]? = some none ∧ Rd N h m v)) := by
  induction x generalizing i with
  | nil => simp at e
  | pl a _ ih =>
    cases i with
    | zero => simp at e; subst e; exact ⟨_, _, rfl, rfl, .inl ⟨rfl, rfl, a⟩⟩
    | succ i => simpa using ih (by simpa using e)
  | rt a b _ ih =>
    cases i with
    | zero => simp at e; subst e; exact ⟨_, _, rfl, rfl, .inr (.inl ⟨a, _, rfl, rfl, b⟩)⟩
    | succ i => simpa using ih (by simpa using e)
  | fz a b c _ ih =>
    cases i with
    | zero => simp at e; subst e; exact ⟨_, _, rfl, rfl, .inr (.inr ⟨a, b, rfl, c⟩)⟩
    | succ i => simpa using ih (by simpa using e)
theorem PF.root {N : Nat → Prop} {h : MH} {ks : List PK} {ms : List MV} {vs : List PV} {ts : List (Option Nat)} (x : PF N h ks ms vs ts) {i t : Nat} (e : ts[i]? = some (some t)) : ∃ v k, vs[i]? = some v ∧ ks[i]? = some k ∧ k ≠ .pl ∧ Rt N h t v := by
  induction x generalizing i with
  | nil => simp at e
  | pl a _ ih =>
    cases i with
    | zero => simp at e
    | succ i => simpa using ih (by simpa using e)
  | rt a b _ ih =>
    cases i with
    | zero => simp at e; subst e; exact ⟨_, _, rfl, rfl, a, b⟩
    | succ i => simpa using ih (by simpa using e)
  | fz a b c _ ih =>
    cases i with
    | zero => simp at e
    | succ i => simpa using ih (by simpa using e)
theorem rOf_mem {ts : List (Option Nat)} {i t : Nat} (e : rOf ts i = some t) : some t ∈ ts ∧ ts[i]? = some (some t) := by
  unfold rOf at e
  cases q : ts[i]? with
  | none => rw [q] at e; cases e
  | some x => rw [q] at e; cases x with
    | none => cases e
    | some y => cases e; exact ⟨List.mem_of_getElem? q, rfl⟩
theorem mem_rOf {ts : List (Option Nat)} {t : Nat} (e : some t ∈ ts) : ∃ i, rOf ts i = some t := by
  obtain ⟨i, q⟩ := List.getElem?_of_mem e
  exact ⟨i, by unfold rOf; rw [q]; rfl⟩
theorem NN_TN {Z : Nat → Prop} {ts : List (Option Nat)} (a : Nat) : NN Z (rOf ts) a ↔ TN Z ts a := by
  constructor
  · rintro (y | ⟨i, y⟩)
    · exact .inl y
    · exact .inr (rOf_mem y).1
  · rintro (y | y)
    · exact .inl y
    · exact .inr (mem_rOf y)
theorem nd_inj {ts : List (Option Nat)} (nd : (ts.filterMap id).Nodup) {i j t : Nat} (a : ts[i]? = some (some t)) (b : ts[j]? = some (some t)) : i = j := by
  induction ts generalizing i j with
  | nil => simp at a
  | cons x ts ih =>
    cases x with
    | none =>
      cases i with
      | zero => simp at a
      | succ i => cases j with
        | zero => simp at b
        | succ j => simp at a b; rw [ih (by simpa using nd) a b]
    | some y =>
      simp only [List.filterMap_cons, id, List.nodup_cons] at nd
      cases i with
      | zero => cases j with
        | zero => rfl
        | succ j =>
          simp at a b; subst a
          exact absurd ((List.mem_filterMap (f := id)).mpr ⟨some y, List.mem_of_getElem? b, rfl⟩) nd.1
      | succ i => cases j with
        | zero =>
          simp at a b; subst b
          exact absurd ((List.mem_filterMap (f := id)).mpr ⟨some y, List.mem_of_getElem? a, rfl⟩) nd.1
        | succ j => simp at a b; rw [ih nd.2 a b]
/-- the classes of a def's slots, as it was called -/
def clS (f : FP) (ts : List (Option Nat)) : Nat → Cls := fun i => if f.pk[i]? = some .br ∧ ts[i]? = some none then .bf else f.cl i
theorem okC_get : ∀ {ks : List PK} {cs : List Cls} {i : Nat} {k : PK}, okC ks cs = true → ks[i]? = some k → cs[i]? = some k.cls
  | [], _, _, _, _, e => by simp at e
  | k :: ks, [], _, _, h, _ => by simp [okC] at h
  | k :: ks, c :: cs, i, k', h, e => by
    simp only [okC, Bool.and_eq_true, decide_eq_true_eq] at h
    cases i with
    | zero => simp at e; subst e; simp [h.1]
    | succ i => simpa using okC_get h.2 (by simpa using e)
theorem okB_get : ∀ {cs : List Cls} {i : Nat} {k : Cls}, okB cs = true → cs[i]? = some k → k ≠ .bf
  | [], _, _, _, e => by simp at e
  | c :: cs, i, k, h, e => by
    simp only [okB, Bool.and_eq_true, decide_eq_true_eq] at h
    cases i with
    | zero => simp at e; subst e; exact h.1
    | succ i => exact okB_get h.2 (by simpa using e)
theorem cl_pk {f : FP} {i : Nat} {k : PK} (g : f.good = true) (e : f.pk[i]? = some k) : f.cl i = k.cls := by
  simp only [FP.good, Bool.and_eq_true, decide_eq_true_eq] at g
  unfold FP.cl
  rw [okC_get g.1.2 e]
  rfl
theorem clS_pk {f : FP} {ts : List (Option Nat)} {i : Nat} {k : PK} (g : f.good = true) (e : f.pk[i]? = some k) (n : k ≠ .pl) : clS f ts i ≠ .sh ∧ (k = .io → clS f ts i = .io) ∧ (k = .br → ts[i]? = some none → clS f ts i = .bf) ∧ (k = .br → clS f ts i = .br ∨ clS f ts i = .bf) ∧ (∀ t, ts[i]? = some (some t) → clS f ts i ≠ .bf) := by
  unfold clS
  rw [e, cl_pk g e]
  cases k with
  | pl => exact absurd rfl n
  | io => simp [PK.cls]
  | br =>
    simp only [true_and, PK.cls]
    split
    · rename_i h; simp [h]
    · rename_i h; simp [h]
theorem clS_pl {f : FP} {ts : List (Option Nat)} {i : Nat} (g : f.good = true) (e : f.pk[i]? = some .pl) : clS f ts i = .sh := by
  unfold clS
  rw [e, cl_pk g e]
  simp [PK.cls]
/-- classes that the evaluator does not tell apart -/
structure ClEq (c c' : Nat → Cls) : Prop where
  sh : ∀ i, c i = .sh ↔ c' i = .sh
  ow : ∀ i, c i = .ow ↔ c' i = .ow
  io : ∀ i, c i = .io ↔ c' i = .io
theorem clS_eq {f : FP} {ts : List (Option Nat)} (g : f.good = true) : ClEq (clS f ts) f.cl := by
  have : ∀ i, clS f ts i = f.cl i ∨ (clS f ts i = .bf ∧ f.cl i = .br) := fun i => by
    unfold clS
    split
    · rename_i h
      exact .inr ⟨rfl, by rw [cl_pk g h.1]; rfl⟩
    · exact .inl rfl
  refine ⟨fun i => ?_, fun i => ?_, fun i => ?_⟩ <;> (rcases this i with e | ⟨e1, e2⟩ <;> simp [*])
section
variable {c c' : Nat → Cls} (q : ClEq c c')
include q
theorem force_cl (o : Opd) (σ : PS) : force c o σ = force c' o σ := by
  cases o <;> simp only [force]
  simp only [q.ow]
theorem forces_cl (os : List Opd) : ∀ σ, forces c os σ = forces c' os σ := by
  induction os with
  | nil => intro σ; rfl
  | cons o os ih => intro σ; simp only [forces, force_cl q, ih]
mutual
theorem asgP_cl : ∀ (t : MT) (v : PV) (σ : PS), asgP c t v σ = asgP c' t v σ
  | .nm i, v, σ => by
    simp only [asgP]
    have a := q.sh i; have b := q.ow i
    cases x : c i <;> cases y : c' i <;> simp_all
  | .tp ts, v, σ => by cases v <;> simp only [asgP]; rw [asgPs_cl ts]
theorem asgPs_cl : ∀ (t : List MT) (v : List PV) (σ : PS), asgPs c t v σ = asgPs c' t v σ
  | [], v, σ => by simp only [asgPs]
  | t :: ts, v, σ => by
    cases v with
    | nil => simp only [asgPs]
    | cons x xs =>
      simp only [asgPs, asgP_cl t]
      congr 1
      funext σ
      exact asgPs_cl ts xs σ
end
theorem asgO_cl (t : MT) (o : Opd) (σ : PS) : asgO c t o σ = asgO c' t o σ := by
  cases o with
  | val v => cases t <;> simp only [asgO, asgP_cl q]
  | bor i => cases t <;> rfl
  | own v =>
    cases t with
    | tp ts => rfl
    | nm i =>
      simp only [asgO]
      have a := q.sh i; have b := q.ow i
      cases x : c i <;> cases y : c' i <;> simp_all
theorem asgF_cl (t : MT) (o : Opd) (σ : PS) : asgF c t o σ = asgF c' t o σ := by
  unfold asgF
  rw [force_cl q]
  split
  · rw [asgO_cl q]
  · rfl
theorem forceQ_cl (o : Opd) (σ : PS) : forceQ c o σ = forceQ c' o σ := by unfold forceQ; rw [force_cl q]
theorem canP_cl (i : Nat) : canP c i = canP c' i := by
  unfold canP
  have a := q.io i; have b := q.ow i
  cases x : c i <;> cases y : c' i <;> simp_all
theorem methO_cl (m : Me) (kd : Kd) (ob : Opd) (os : List Opd) (σ : PS) : methO c m kd ob os σ = methO c' m kd ob os σ := by
  unfold methO
  rw [forces_cl q]
  cases forces c' os σ with
  | none => rfl
  | some p => cases ob <;> simp only [canP_cl q]
theorem lcOk_cl (t : MT) (own : List Nat) : lcOk c t own = lcOk c' t own := by
  unfold lcOk
  congr 1
  congr 1
  funext i
  simp only [q.sh]
theorem compQ_cl (t : MT) (own : List Nat) (ts : PS → Q Bool) (el : PS → Q PV) (xs : List PV) (σ : PS) : compQ c t own ts el xs σ = compQ c' t own ts el xs σ := by
  unfold compQ
  simp only [asgP_cl q]
theorem argsP_cl : ∀ (ks : List PK) (os : List Opd) (σ : PS), argsP c ks os σ = argsP c' ks os σ := by
  intro ks
  induction ks with
  | nil => intro os σ; cases os <;> simp only [argsP]
  | cons k ks ih =>
    intro os σ
    cases os with
    | nil => simp only [argsP]
    | cons o os => cases k <;> cases o <;> simp only [argsP, ih, force_cl q, q.ow, q.io, ne_eq]
end
section
variable {X : CQ} {c : Nat → Cls} (q : ClEq c X.cl)
include q
theorem callP_cl (f : Str) (os : List Opd) (σ : PS) : callP { X with cl := c } f os σ = callP X f os σ := by
  unfold callP
  dsimp only
  split
  · rw [argsP_cl q]
  · rfl
mutual
theorem evP_cl : ∀ (e : ME) (σ : PS), evP { X with cl := c } e σ = evP X e σ
  | .c v, σ => by simp only [evP]
  | .var i, σ => by simp only [evP, q.sh]
  | .glb x, σ => by simp only [evP]
  | .tup es, σ => by simp only [evP, evPs_cl es, forces_cl q]
  | .lst es, σ => by simp only [evP, evPs_cl es, forces_cl q]
  | .bin op a b, σ => by simp only [evP, evP_cl a, evP_cl b]
  | .neg a, σ => by simp only [evP, evP_cl a]
  | .not_ a, σ => by simp only [evP, evP_cl a]
  | .cmp op a b, σ => by simp only [evP, evP_cl a, evP_cl b]
  | .chain o1 o2 a b d, σ => by simp only [evP, evP_cl a, evP_cl b, evP_cl d]
  | .and_ a b, σ => by simp only [evP, evP_cl a, evP_cl b]
  | .or_ a b, σ => by simp only [evP, evP_cl a, evP_cl b]
  | .ife d a b, σ => by simp only [evP, evP_cl d, evP_cl a, evP_cl b]
  | .ix a b, σ => by simp only [evP, evP_cl a, evP_cl b]
  | .sl a, σ => by simp only [evP, evP_cl a]
  | .slL a b, σ => by simp only [evP, evP_cl a, evP_cl b]
  | .slH a b, σ => by simp only [evP, evP_cl a, evP_cl b]
  | .slB a b d, σ => by simp only [evP, evP_cl a, evP_cl b, evP_cl d]
  | .rev a, σ => by simp only [evP, evP_cl a]
  | .call f es, σ => by simp only [evP, evPs_cl es, callP_cl q]
  | .blt b es, σ => by simp only [evP, evPs_cl es]
  | .meth m a es, σ => by simp only [evP, evP_cl a, evPs_cl es, methO_cl q]
  | .isi a t, σ => by simp only [evP, evP_cl a]
  | .dsp es, σ => by simp only [evP, evPs_cl es, forces_cl q]
  | .rngL a b, σ => by simp only [evP, evP_cl a, evP_cl b]
  | .rngT a b, σ => by simp only [evP, evP_cl a, evP_cl b]
  | .lc elt tg ik a b ifs own, σ => by simp only [evP, evP_cl a, evP_cl b, evPts_cl ifs, evP_cl elt, lcOk_cl q, compQ_cl q, forceQ_cl q]
theorem evPs_cl : ∀ (es : List ME) (σ : PS), evPs { X with cl := c } es σ = evPs X es σ
  | [], σ => by simp only [evPs]
  | e :: es, σ => by simp only [evPs, evP_cl e, evPs_cl es]
theorem evPts_cl : ∀ (es : List ME) (σ : PS), evPts { X with cl := c } es σ = evPts X es σ
  | [], σ => by simp only [evPts]
  | e :: es, σ => by simp only [evPts, evP_cl e, evPts_cl es]
end
mutual
theorem evT_cl : ∀ (s : MS) (σ : PS), evT { X with cl := c } s σ = evT X s σ
  | .asg tg e, σ => by simp only [evT, evP_cl q e, asgF_cl q]
  | .asgSub o i e, σ => by simp only [evT, evP_cl q o, evP_cl q i, evP_cl q e, force_cl q, canP_cl q]
  | .expr e, σ => by simp only [evT, evP_cl q e]
  | .ret e, σ => by simp only [evT, evP_cl q e, force_cl q]
  | .retN, σ => by simp only [evT]
  | .ite t a b, σ => by simp only [evT, evP_cl q t, evTs'_cl a, evTs'_cl b]
  | .for_ tg ik a b body, σ => by simp only [evT, evP_cl q a, evP_cl q b, evTs'_cl body, asgP_cl q]
  | .whl t body, σ => by simp only [evT, evP_cl q t, evTs'_cl body]
  | .pass, σ => by simp only [evT]
  | .brk, σ => by simp only [evT]
  | .cont, σ => by simp only [evT]
theorem evTs'_cl : ∀ (ss : List MS) (σ : PS), evTs' { X with cl := c } ss σ = evTs' X ss σ
  | [], σ => by simp only [evTs']
  | s :: ss, σ => by simp only [evTs', evT_cl s, evTs'_cl ss]
end
end
/-- where a def's body starts -/
theorem St.start {f : FP} (g : f.good = true) {Z : Nat → Prop} {h : MH} {ms : List MV} {vs : List PV} {ts : List (Option Nat)} {k : Nat} (pf : PF (TN Z ts) h f.pk ms vs ts) (zb : ∀ a, Z a → a < h.length) (nd : (ts.filterMap id).Nodup) (nz : ∀ t, some t ∈ ts → ¬ Z t) :
    St (clS f ts) Z h (vs.map some ++ List.replicate k none) (ms.map some ++ List.replicate k none) (rOf ts) := by
  have sub : ∀ a, NN Z (rOf ts) a → TN Z ts a := fun a y => (NN_TN a).mp y
  have slot : ∀ i v, (vs.map some ++ List.replicate k none)[i]? = some (some v) → vs[i]? = some v := fun i v e => by
    by_cases lt : i < vs.length
    · rw [List.getElem?_append_left (by simpa using lt), List.getElem?_map] at e
      cases q : vs[i]? with
      | none => rw [q] at e; cases e
      | some w => rw [q] at e; cases e; rfl
    · rw [List.getElem?_append_right (by simpa using lt)] at e
      have := (List.getElem?_eq_some_iff.mp e).2
      simp at this
  have slotm : ∀ i m, ms[i]? = some m → (ms.map some ++ List.replicate k none)[i]? = some (some m) := fun i m e => by
    rw [List.getElem?_append_left (by simpa using get_lt e), List.getElem?_map, e]; rfl
  refine ⟨?_, fun i v c e => ?_, fun i v c e => ?_, fun i a e => ?_, fun i j a e1 e2 => ?_, zb⟩
  · simp [pf.len.1, pf.len.2.1]
  · obtain ⟨m, kk, e1, e2, q⟩ := pf.get (slot i v e)
    refine ⟨m, slotm i m e1, ?_⟩
    rcases q with ⟨_, _, q⟩ | ⟨n, t, _, _, q⟩ | ⟨n, _, _, q⟩
    · exact q.weak sub
    · exact absurd c (clS_pk g e2 n).1
    · exact absurd c (clS_pk g e2 n).1
  · obtain ⟨m, kk, e1, e2, q⟩ := pf.get (slot i v e)
    refine ⟨m, slotm i m e1, ?_⟩
    rcases q with ⟨ek, et, q⟩ | ⟨n, t, em, et, q⟩ | ⟨n, q0, et, q⟩
    · subst ek
      exact absurd (clS_pl g e2) c
    · exact .rt t (by unfold rOf; rw [et]; rfl) em (q.weak sub)
    · refine .fz (by unfold rOf; rw [et]; rfl) (q.weak sub) ?_
      cases kk with
      | pl => exact absurd rfl n
      | io => exact .inr (q0 rfl)
      | br => exact .inl ((clS_pk g e2 n).2.2.1 rfl et)
  · obtain ⟨q1, q2⟩ := rOf_mem e
    obtain ⟨v, kk, _, e3, n, q⟩ := pf.root q2
    exact ⟨(clS_pk g e3 n).1, q.lt, nz a q1⟩
  · exact nd_inj nd (rOf_mem e1).2 (rOf_mem e2).2
theorem get_succ {α : Type} {x : α} {l : List α} {i : Nat} : (x :: l)[i + 1]? = l[i]? := rfl
theorem PF.set {N N' : Nat → Prop} {h h' : MH} {pk : List PK} {ms : List MV} {vs : List PV} {ts : List (Option Nat)} (x : PF N h pk ms vs ts) (hr : ∀ m v, Rd N h m v → Rd N' h' m v) : ∀ {σ : PS} {ios : List PV}, outsP pk vs σ = some ios →
    (∀ (i : Nat) (k : PK) (m : MV) (v' : PV), pk[i]? = some k → k ≠ .pl → ms[i]? = some m → σ[i]? = some (some v') → isLk v' = false → (∀ t, ts[i]? = some (some t) → Rt N' h' t v') ∧ (ts[i]? = some none → Rd N' h' m v' ∧ (k = .io → isLD v' = false))) → PF N' h' pk ms ios ts := by
  induction x with
  | nil => intro σ ios e _; simp only [outsP] at e; cases e; exact .nil
  | @pl m v ks ms vs ts a _ ih =>
    intro σ ios e q
    cases σ with
    | nil => simp [outsP] at e
    | cons s σ =>
      simp only [outsP] at e
      cases y : outsP ks vs σ with
      | none => rw [y] at e; cases e
      | some ios' =>
        rw [y] at e; cases e
        exact .pl (hr _ _ a) (ih y fun i k m v' e1 e2 e3 e4 => q (i + 1) k m v' e1 e2 e3 e4)
  | @rt k t v ks ms vs ts a b _ ih =>
    intro σ ios e q
    cases σ with
    | nil => cases k <;> simp [outsP] at e
    | cons s σ =>
      cases s with
      | none => cases k <;> first | exact absurd rfl a | simp [outsP] at e
      | some w =>
        have e' : (if isLk w then none else (outsP ks vs σ).map (w :: ·)) = some ios := by cases k <;> first | exact absurd rfl a | exact e
        split at e'
        · cases e'
        · rename_i hl
          cases y : outsP ks vs σ with
          | none => rw [y] at e'; cases e'
          | some ios' =>
            rw [y] at e'; cases e'
            exact .rt a ((q 0 k _ w rfl a rfl rfl (by simpa using hl)).1 t rfl) (ih y fun i k m v' e1 e2 e3 e4 => q (i + 1) k m v' e1 e2 e3 e4)
  | @fz k m v ks ms vs ts a b c _ ih =>
    intro σ ios e q
    cases σ with
    | nil => cases k <;> simp [outsP] at e
    | cons s σ =>
      cases s with
      | none => cases k <;> first | exact absurd rfl a | simp [outsP] at e
      | some w =>
        have e' : (if isLk w then none else (outsP ks vs σ).map (w :: ·)) = some ios := by cases k <;> first | exact absurd rfl a | exact e
        split at e'
        · cases e'
        · rename_i hl
          cases y : outsP ks vs σ with
          | none => rw [y] at e'; cases e'
          | some ios' =>
            rw [y] at e'; cases e'
            have := (q 0 k _ w rfl a rfl rfl (by simpa using hl)).2 rfl
            exact .fz a this.2 this.1 (ih y fun i k m v' e1 e2 e3 e4 => q (i + 1) k m v' e1 e2 e3 e4)
theorem outs_set {pk : List PK} : ∀ {vs : List PV} {σ : PS} {ios : List PV} {i : Nat} {k : PK}, outsP pk vs σ = some ios → pk[i]? = some k → k ≠ .pl → ∃ v, σ[i]? = some (some v) ∧ isLk v = false := by
  induction pk with
  | nil => intro vs σ ios i k e e1; simp at e1
  | cons k0 ks ih =>
    intro vs σ ios i k e e1 n
    cases vs with
    | nil => cases k0 <;> simp [outsP] at e
    | cons v vs =>
      cases σ with
      | nil => cases k0 <;> simp [outsP] at e
      | cons s σ =>
        by_cases kp : k0 = .pl
        · subst kp
          simp only [outsP] at e
          cases i with
          | zero => simp at e1; exact absurd e1.symm n
          | succ i =>
            cases y : outsP ks vs σ with
            | none => rw [y] at e; cases e
            | some ios' => have := ih (σ := σ) (i := i) y (by simpa using e1) n; simpa using this
        · cases s with
          | none => cases k0 <;> first | exact absurd rfl kp | simp [outsP] at e
          | some w =>
            have e' : (if isLk w then none else (outsP ks vs σ).map (w :: ·)) = some ios := by cases k0 <;> first | exact absurd rfl kp | exact e
            split at e'
            · cases e'
            · rename_i hl
              cases i with
              | zero => exact ⟨w, rfl, by simpa using hl⟩
              | succ i =>
                cases y : outsP ks vs σ with
                | none => rw [y] at e'; cases e'
                | some ios' => have := ih (σ := σ) (i := i) y (by simpa using e1) n; simpa using this
/-- at the end of a body -/
theorem exit_ok {f : FP} (g : f.good = true) {Z Z' : Nat → Prop} {h h' : MH} {ms : List MV} {vs : List PV} {ts : List (Option Nat)} {σ0 σ' : PS} {μ' : MS'} {r' : Nat → Option Nat} {k : Nat} {o o' : Opd} {m : MV} {ios : List PV}
    (pf : PF (TN Z ts) h f.pk ms vs ts) (nz : ∀ t, some t ∈ ts → ¬ Z t) (S : St (clS f ts) Z' h' σ' μ' r') (F : Fr Z h σ0 (rOf ts) Z' h' σ' r') (km : lkμ (clS f ts) σ0 (ms.map some ++ List.replicate k none) μ')
    (T : TO (clS f ts) Z Z' h' μ' r' o m) (nb : o.isB = false) (e : exitP f vs o σ' = .ok o' ios) : ∃ Z'', CallR Z h f.pk ms ts o' ios m h' Z'' := by
  unfold exitP at e
  split at e
  · rename_i ios' eo
    have slotm : ∀ i m, ms[i]? = some m → (ms.map some ++ List.replicate k none)[i]? = some (some m) := fun i m e => by
      rw [List.getElem?_append_left (by simpa using get_lt e), List.getElem?_map, e]; rfl
    have mu : ∀ (i : Nat) (kk : PK) (m : MV), f.pk[i]? = some kk → kk ≠ .pl → ms[i]? = some m → μ'[i]? = some (some m) := fun i kk m e1 e2 e3 => by
      rw [km i (.inr ?_), slotm i m e3]
      cases kk with
      | pl => exact absurd rfl e2
      | io => exact .inl ((clS_pk g e1 e2).2.1 rfl)
      | br => exact .inr ((clS_pk g e1 e2).2.2.2.1 rfl)
    have old : ∀ a, NN Z (rOf ts) a ↔ TN Z ts a := NN_TN
    -- what each shared parameter holds
    have hold : ∀ (i : Nat) (kk : PK) (m : MV) (w : PV), f.pk[i]? = some kk → kk ≠ .pl → ms[i]? = some m → σ'[i]? = some (some w) → isLk w = false →
        (∀ t, ts[i]? = some (some t) → r' i = some t ∧ Rt (NN Z' r') h' t w) ∧ (ts[i]? = some none → Rd (NN Z' r') h' m w ∧ (kk = .io → isLD w = false)) := fun i kk m w e1 e2 e3 e4 e5 => by
      obtain ⟨m1, g1, hd⟩ := S.ow i w (clS_pk g e1 e2).1 e4
      rw [mu i kk m e1 e2 e3] at g1
      cases g1
      refine ⟨fun t et => ?_, fun et => ?_⟩
      · obtain ⟨v, k0, f1, f2, f3, f4⟩ := pf.root et
        obtain ⟨m0, k1, f5, f6, q2⟩ := pf.get f1
        rw [e3] at f5; cases f5
        have em : m = .ref t := by
          rw [e1] at f6; cases f6
          rcases q2 with ⟨a, _⟩ | ⟨_, t', em, et', _⟩ | ⟨_, _, et', _⟩
          · exact absurd a e2
          · rw [et] at et'; cases et'; exact em
          · rw [et] at et'; cases et'
        subst em
        cases hd with
        | fz a b c =>
          rcases c with c | c
          · exact absurd c ((clS_pk g e1 e2).2.2.2.2 t et)
          · rw [b.ref_ld] at c; cases c
        | rt t' a b c => cases b; exact ⟨a, c⟩
        | lk a b => subst b; cases e5
      · have lv : i < vs.length := by rw [pf.len.2.1]; exact get_lt e1
        obtain ⟨vi, hvi⟩ : ∃ x, vs[i]? = some x := ⟨_, List.getElem?_eq_getElem lv⟩
        obtain ⟨m0, k1, f5, f6, q2⟩ := pf.get hvi
        rw [e3] at f5; cases f5
        rw [e1] at f6; cases f6
        obtain ⟨q0, q3⟩ : (kk = .io → isLD vi = false) ∧ Rd (TN Z ts) h m vi := by
          rcases q2 with ⟨a, _⟩ | ⟨_, t', em, et', _⟩ | ⟨_, a, et', b⟩
          · exact absurd a e2
          · rw [et] at et'; cases et'
          · exact ⟨a, b⟩
        cases hd with
        | fz a b c =>
          refine ⟨b, fun ki => ?_⟩
          rcases c with c | c
          · subst ki; rw [(clS_pk g e1 e2).2.1 rfl] at c; cases c
          · exact c
        | lk a b => subst b; cases e5
        | rt a ra em c =>
          exfalso
          subst em
          have na : ∃ x, h[a]? = some x ∧ ¬ TN Z ts a := by
            cases q3 with
            | lst n e _ => exact ⟨_, e, n⟩
            | fro n e _ => exact ⟨_, e, n⟩
            | dct n e _ => exact ⟨_, e, n⟩
          obtain ⟨x, ex, n⟩ := na
          rcases F.nn a (.inr ⟨i, ra⟩) with w | w
          · exact n ((old a).mp w)
          · have := get_lt ex; omega
    have hrt : ∀ t, some t ∈ ts → ∃ i, r' i = some t := fun t q => by
      obtain ⟨i, et⟩ := List.getElem?_of_mem q
      obtain ⟨v, kk, e1, e2, e3, q⟩ := pf.root et
      obtain ⟨w, e4, e5⟩ := outs_set eo e2 e3
      have lm : i < ms.length := by rw [pf.len.1]; exact get_lt e2
      exact ⟨i, ((hold i kk _ w e2 e3 (List.getElem?_eq_getElem lm) e4 e5).1 t et).1⟩
    have sub : ∀ a, TN Z' ts a → NN Z' r' a := fun a y => by
      rcases y with y | y
      · exact .inl y
      · exact .inr (hrt a y)
    have zn : ∀ a, Z' a → Z a ∨ h.length ≤ a := fun a y => by
      rcases F.nn a (.inl y) with w | w
      · rcases (old a).mp w with w | w
        · exact .inl w
        · obtain ⟨i, w⟩ := hrt a w
          exact absurd y (S.rt i a w).2.2
      · exact .inr w
    have pf' : PF (TN Z' ts) h' f.pk ms ios' ts := pf.set (fun m v q => ((F.rd (q.weak fun a y => (old a).mp y)).weak sub)) eo fun i kk m w e1 e2 e3 e4 e5 => by
      obtain ⟨a, b⟩ := hold i kk m w e1 e2 e3 e4 e5
      exact ⟨fun t et => (a t et).2.weak sub, fun et => ⟨(b et).1.weak sub, (b et).2⟩⟩
    have same : ∀ a x, h[a]? = some x → some a ∉ ts → h'[a]? = some x := fun a x ex n => F.same a x ex fun i z => n (rOf_mem z).1
    have wz : ∀ a, TN Z ts a → TN Z' ts a := fun a y => y.imp (F.zz a) id
    have zb' : ∀ a, Z a → a < h'.length := fun a y => S.zb a (F.zz a y)
    have frozen : Rd (TN Z ts) h' m o.v := (T.frz S F.zz nb).weak fun a y => by
      rcases y with y | y
      · exact .inl y
      · exact .inr (hrt a y)
    have cv : CallR Z h f.pk ms ts (.val o.v) ios' m h' Z := ⟨fun _ y => y, zb', fun _ y => .inl y, F.len, same, pf'.weak wz, frozen⟩
    split at e
    · cases o with
      | bor i => cases nb
      | val v =>
        dsimp only at e
        split at e
        · cases e
        · cases e; exact ⟨Z, cv⟩
      | own v =>
        cases e
        obtain ⟨t, a, b, c, d⟩ := T
        exact ⟨Z', F.zz, S.zb, zn, F.len, same, pf', ⟨t, a, b, c, d.weak sub⟩⟩
    · cases e; exact ⟨Z, cv⟩
  · cases e
/-- a table of defs with their kinds stands for the table of the small ones -/
structure GOk (Γ : Str → Option FD) (ΓP : Str → Option FP) : Prop where
  fd : ∀ f d, ΓP f = some d → Γ f = some ⟨d.np, d.nl, d.body⟩
theorem run_ok {Γ : Str → Option FD} {ΓP : Str → Option FP} {gl : Str → Option MV} {W : Nat} (G : GOk Γ ΓP) : ∀ (d : Nat) (X : CQ), X.call = runP ΓP gl W d → X.sig = sigP ΓP → CallOk X (runF Γ gl W d) := by
  intro d
  induction d with
  | zero => intro X hX hs f pk fr _ vs o ios e; rw [hX] at e; simp only [runP] at e; cases e
  | succ d ih =>
    intro X hX hs f pk fr hsig vs o ios e Z h ms ts pf zb nd nz
    rw [hX] at e
    rw [hs] at hsig
    unfold sigP at hsig
    cases q : ΓP f with
    | none => rw [q] at hsig; cases hsig
    | some fd =>
      rw [q] at hsig
      simp only [Option.map_some, Option.some.injEq, Prod.mk.injEq] at hsig
      obtain ⟨rfl, rfl⟩ := hsig
      simp only [runP, q] at e
      split at e
      · rename_i hl
        have hg := G.fd f fd q
        have lm : ms.length = fd.np := by rw [pf.len.1, ← pf.len.2.1]; exact hl.1
        let X0 : CQ := ⟨runP ΓP gl W d, sigP ΓP, fd.cl, gl, W⟩
        let X1 : CQ := { X0 with cl := clS fd ts }
        have ev : ∀ σ, evTs' X1 fd.body σ = evTs' X0 fd.body σ := evTs'_cl (X := X0) (clS_eq hl.2) fd.body
        have S0 := St.start (k := fd.nl - fd.np) hl.2 pf zb nd nz
        have main := sss' (X := X1) (M := ⟨runF Γ gl W d, gl, W⟩) (ih X1 rfl rfl) rfl rfl fd.body Z h _ _ _ S0
        simp only [runF, hg, lm, if_true]
        unfold finP at e
        split at e
        · rename_i o1 σ1 e1
          obtain ⟨mf, h', μ', r', Z', q1, S, F, km, m, rfl, T, nb⟩ := main _ _ ((ev _).trans e1)
          obtain ⟨Z'', C⟩ := exit_ok hl.2 pf nz S F km T nb e
          exact ⟨m, h', Z'', by rw [q1]; rfl, C⟩
        · rename_i σ1 e1
          obtain ⟨mf, h', μ', r', Z', q1, S, F, km, rfl, rfl⟩ := main _ _ ((ev _).trans e1)
          obtain ⟨Z'', C⟩ := exit_ok (o := .val .non) (m := .non) hl.2 pf nz S F km Rd.non rfl e
          exact ⟨.non, h', Z'', by rw [q1]; rfl, C⟩
        · split at e <;> cases e
        · cases e
      · cases e
/-- the law's call -/
theorem law_of_run {Γ : Str → Option FD} {ΓP : Str → Option FP} {gl : Str → Option MV} {W d : Nat} (G : GOk Γ ΓP) {ns : List Int} {f : Str} {fr : Bool} {ios : List PV} {o : Opd} (hs : sigP ΓP f = some ([.pl], fr)) (e : runP ΓP gl W d f [.fro (ns.map .int)] = .ok o ios) (ho : o.v = .bl true) :
    ∃ mh', runF Γ gl W d f [.ref 0] [.fro (ns.map .int)] = .ok (.bl true) mh' := by
  obtain ⟨m, h', Z', e1, C⟩ := run_ok (W := W) G d ⟨runP ΓP gl W d, sigP ΓP, fun _ => .sh, gl, W⟩ rfl rfl f _ fr hs _ o ios e (fun _ => False) [.fro (ns.map .int)] [.ref 0] [none]
    (.pl (.fro (by rintro (z | z) <;> simp at z) rfl (Rds.ints ns)) .nil) (fun _ z => z.elim) (by simp) (fun t z => by simp at z)
  have := C.res
  cases o with
  | val v => cases ho; cases this; exact ⟨h', e1⟩
  | own v => cases ho; obtain ⟨t, _, _, _, y⟩ := this; cases y
  | bor i => cases ho
end Mn


set_option autoImplicit false
set_option maxHeartbeats 1000000
/-! PLib: how runs over trees are shown. -/
namespace Mn
open PySem L2
/-- a type that names a value: what is told there is looked at by nobody ahead of its turn -/
abbrev Dep {τ : Type} (x : τ) (T : Type) : Type := T
def bnd {α β : Type} (q : Q α) (f : α → PS → Q β) : Dep f (Q β) := q.bind f
def Evq {α : Type} (q : Q α) (P : α → PS → Prop) : Prop := ∃ a σ, q = .ok a σ ∧ P a σ
section
variable {α β : Type} {q : Q α} {f : α → PS → Q β} {P : β → PS → Prop} {R R' : α → PS → Prop} {a : α} {σ : PS}
theorem Evq.bind (e : Evq q fun a σ => Evq (f a σ) P) : Evq (q.bind f) P := by
  obtain ⟨a, h, rfl, b, h', e, p⟩ := e
  exact ⟨b, h', e, p⟩
theorem Evq.ok (p : R a σ) : Evq (.ok a σ) R := ⟨a, σ, rfl, p⟩
theorem Evq.imp (e : Evq q R) (i : ∀ a σ, R a σ → R' a σ) : Evq q R' := by
  obtain ⟨a, h, e, p⟩ := e
  exact ⟨a, h, e, i a h p⟩
theorem Evq.of (e : q = .ok a σ) (p : R a σ) : Evq q R := ⟨a, σ, e, p⟩
theorem Evq.bnd (e : Evq q fun a σ => Evq (f a σ) P) : Evq (Mn.bnd q f) P := Evq.bind e
theorem qq_ok : (Q.ok a σ).bind f = f a σ := rfl
theorem qq_assoc {γ : Type} {g : β → PS → Q γ} : (q.bind f).bind g = q.bind fun a σ => (f a σ).bind g := by cases q <;> rfl
theorem qb_ok : Mn.bnd (Q.ok a σ) f = f a σ := rfl
theorem qb_assoc {γ : Type} {g : β → PS → Q γ} : Mn.bnd (Mn.bnd q f) g = Mn.bnd q fun a σ => Mn.bnd (f a σ) g := by cases q <;> rfl
end
/-- the call comes to a value and the shared parameters -/
def Evc (r : CR) (P : PV → List PV → Prop) : Prop := ∃ v ios, r = .ok (.val v) ios ∧ P v ios
def Evo (r : CR) (P : Opd → List PV → Prop) : Prop := ∃ v ios, r = .ok v ios ∧ P v ios
def clOf (cs : List Cls) (i : Nat) : Cls := (cs[i]?).getD .sh
def exitQ (pk : List PK) (fr : Bool) (vs : List PV) (o : Opd) (σ : PS) : CR := match outsP pk vs σ with
  | some ios => if fr then (match o with
      | .own v => .ok (.own v) ios
      | .val v => if isLD v then .bad else .ok (.val v) ios
      | .bor _ => .bad)
    else .ok (.val o.v) ios
  | none => .bad
def finQ (pk : List PK) (fr : Bool) (vs : List PV) (r : Q FlP) : CR := match r with
  | .ok (.ret o) σ => exitQ pk fr vs o σ
  | .ok .nx σ => exitQ pk fr vs (.val .non) σ
  | .exc c fs σ => match outsP pk vs σ with
    | some ios => .exc c fs ios
    | none => .bad
  | _ => .bad
theorem run_eq {Γ : Str → Option FP} {gl : Str → Option MV} {W d np nl : Nat} {f : Str} {vs : List PV} {body : List MS} {cs : List Cls} {pk : List PK} {fr : Bool} (e : Γ f = some ⟨np, nl, body, cs, pk, fr⟩) (hl : vs.length = np) (g : (FP.mk np nl body cs pk fr).good = true) :
    runP Γ gl W (d + 1) f vs = finQ pk fr vs (evTs' ⟨runP Γ gl W d, sigP Γ, clOf cs, gl, W⟩ body (vs.map some ++ List.replicate (nl - np) none)) := by
  simp only [runP, e, hl, g, and_self, if_true]
  rfl
theorem finQ_ret {pk : List PK} {fr : Bool} {vs : List PV} {o : Opd} {σ : PS} : finQ pk fr vs (.ok (.ret o) σ) = exitQ pk fr vs o σ := rfl
theorem finQ_nx {pk : List PK} {fr : Bool} {vs : List PV} {σ : PS} : finQ pk fr vs (.ok .nx σ) = exitQ pk fr vs (.val .non) σ := rfl
/-- what is to hold where a body ends -/
def RP (pk : List PK) (fr : Bool) (vs : List PV) (P : Opd → List PV → Prop) (fl : FlP) (σ : PS) : Prop := match fl with
  | .ret o => Evo (exitQ pk fr vs o σ) P
  | .nx => Evo (exitQ pk fr vs (.val .non) σ) P
  | _ => False
theorem RP.ret {pk : List PK} {fr : Bool} {vs : List PV} {P : Opd → List PV → Prop} {o : Opd} {σ : PS} (h : Evo (exitQ pk fr vs o σ) P) : RP pk fr vs P (.ret o) σ := h
theorem RP.nx {pk : List PK} {fr : Bool} {vs : List PV} {P : Opd → List PV → Prop} {σ : PS} (h : Evo (exitQ pk fr vs (.val .non) σ) P) : RP pk fr vs P .nx σ := h
theorem finQ_ev {pk : List PK} {fr : Bool} {vs : List PV} {q : Q FlP} {P : Opd → List PV → Prop} (b : Evq q (RP pk fr vs P)) : Evo (finQ pk fr vs q) P := by
  obtain ⟨fl, σ, e, p⟩ := b
  rw [e]
  cases fl with
  | ret o => exact p
  | nx => exact p
  | brk => exact p.elim
  | cont => exact p.elim
/-- the first n statements, then the others -/
theorem tk' {X : CQ} (n : Nat) {ss : List MS} {σ : PS} : evTs' X ss σ = (evTs' X (ss.take n) σ).bind fun fl σ => match fl with
    | .nx => evTs' X (ss.drop n) σ
    | f => .ok f σ := by
  induction n generalizing ss σ with
  | zero => simp only [List.take_zero, List.drop_zero, evTs', qq_ok]
  | succ n ih =>
    cases ss with
    | nil => simp only [List.take_nil, List.drop_nil, evTs']; rfl
    | cons s ss =>
      simp only [List.take_succ_cons, List.drop_succ_cons, evTs', qq_assoc]
      congr 1
      funext fl σ
      cases fl with
      | nx => exact ih
      | _ => rfl
theorem sig_eq {Γ : Str → Option FP} {f : Str} {fd : FP} (e : Γ f = some fd) : sigP Γ f = some (fd.pk, fd.fr) := by unfold sigP; rw [e]; rfl
theorem Evo.imp {r : CR} {P P' : Opd → List PV → Prop} (e : Evo r P) (i : ∀ a σ, P a σ → P' a σ) : Evo r P' := by
  obtain ⟨a, h, e, p⟩ := e
  exact ⟨a, h, e, i a h p⟩
theorem Evo.ok {P : Opd → List PV → Prop} {o : Opd} {ios : List PV} (p : P o ios) : Evo (.ok o ios) P := ⟨o, ios, rfl, p⟩
/-! ### reading -/
theorem rd_ok {σ : PS} {i : Nat} {v : PV} (e : σ[i]? = some (some v)) (n : isLk v = false) : rdV σ i = some v := by
  unfold rdV; rw [e]; simp [n]
section
variable {s : Option PV} {σ : PS} {i : Nat} {v : PV} {b : Bool} {x y : Int} {xs ys : List PV} {kvs : List (Key × PV)} {z : Str}
theorem rd_s : rdV (s :: σ) (i + 1) = rdV σ i := rfl
theorem rd_non : rdV (some .non :: σ) 0 = some .non := rfl
theorem rd_bl : rdV (some (.bl b) :: σ) 0 = some (.bl b) := rfl
theorem rd_int : rdV (some (.int x) :: σ) 0 = some (.int x) := rfl
theorem rd_str : rdV (some (.str z) :: σ) 0 = some (.str z) := rfl
theorem rd_tup : rdV (some (.tup xs) :: σ) 0 = some (.tup xs) := rfl
theorem rd_lst : rdV (some (.lst xs) :: σ) 0 = some (.lst xs) := rfl
theorem rd_fro : rdV (some (.fro xs) :: σ) 0 = some (.fro xs) := rfl
theorem rd_dct : rdV (some (.dct kvs) :: σ) 0 = some (.dct kvs) := rfl
theorem rd_any (n : isLk v = false) : rdV (some v :: σ) 0 = some v := by simp [rdV, n]
theorem rd_lck : rdV (some .lck :: σ) 0 = none := rfl
theorem rd_none : rdV (none :: σ) 0 = none := rfl
theorem ld_non : isLD .non = false := rfl
theorem ld_bl : isLD (.bl b) = false := rfl
theorem ld_int : isLD (.int x) = false := rfl
theorem ld_str : isLD (.str z) = false := rfl
theorem ld_tup : isLD (.tup xs) = false := rfl
theorem ld_lst : isLD (.lst xs) = true := rfl
theorem ld_fro : isLD (.fro xs) = true := rfl
theorem ld_dct : isLD (.dct kvs) = true := rfl
theorem kd_str' : kdP (.str z) = some .str := rfl
theorem kd_tup' : kdP (.tup xs) = some .tuple := rfl
theorem kd_lst' : kdP (.lst xs) = some .list := rfl
theorem kd_dct' : kdP (.dct kvs) = some .dict := rfl
theorem lk_non : isLk .non = false := rfl
theorem lk_bl : isLk (.bl b) = false := rfl
theorem lk_int : isLk (.int x) = false := rfl
theorem lk_str : isLk (.str z) = false := rfl
theorem lk_tup : isLk (.tup xs) = false := rfl
theorem lk_lst : isLk (.lst xs) = false := rfl
theorem lk_fro : isLk (.fro xs) = false := rfl
theorem lk_dct : isLk (.dct kvs) = false := rfl
theorem lk_lck : isLk .lck = true := rfl
/-! single steps -/
theorem tr_bl : truthP (.bl b) = some b := rfl
theorem tr_int : truthP (.int x) = some (x != 0) := rfl
theorem tr_non : truthP .non = some false := rfl
theorem tr_tup : truthP (.tup xs) = some (!xs.isEmpty) := rfl
theorem tr_lst : truthP (.lst xs) = some (!xs.isEmpty) := rfl
theorem bp_add : binP .Add (.int x) (.int y) = some (.val (.int (x + y))) := rfl
theorem bp_sub : binP .Sub (.int x) (.int y) = some (.val (.int (x - y))) := rfl
theorem bp_mul (c : x.natAbs < 2 ^ 64 ∨ y.natAbs < 2 ^ 64) : binP .Mult (.int x) (.int y) = some (.val (.int (x * y))) := by simp only [binP, c, if_true]
theorem bp_mulc (c : x.natAbs < 2 ^ 64) : binP .Mult (.int x) (.int y) = some (.val (.int (x * y))) := bp_mul (.inl c)
theorem bp_div (c : 0 < y ∧ y < 1073741824) : binP .FloorDiv (.int x) (.int y) = some (.val (.int (x / y))) := by simp only [binP, c, and_self, if_true]
theorem bp_mod (c : 0 < y) : binP .Mod (.int x) (.int y) = some (.val (.int (x % y))) := by simp only [binP, c, if_true]
theorem bp_pow (c : 0 ≤ y ∧ y ≤ 1000000 ∧ x.natAbs < 2 ^ 64) : binP .Pow (.int x) (.int y) = some (.val (.int (x ^ y.toNat))) := by simp only [binP, c, and_self, if_true]
theorem bp_shl (c : 0 ≤ y ∧ y ≤ 1000000 ∧ x.natAbs < 2 ^ 64) : binP .LShift (.int x) (.int y) = some (.val (.int (x * 2 ^ y.toNat))) := by simp only [binP, c, and_self, if_true]
theorem bp_shr (c : 0 ≤ y) : binP .RShift (.int x) (.int y) = some (.val (.int (x / 2 ^ y.toNat))) := by simp only [binP, c, if_true]
theorem bp_band : binP .BitAnd (.int x) (.int y) = some (.val (.int (Builtin.bitAnd x y))) := rfl
theorem bp_addT (c : xs.length + ys.length ≤ lineM) : binP .Add (.tup xs) (.tup ys) = some (.val (.tup (xs ++ ys))) := by simp only [binP, c, if_true]
theorem bp_addL (c : xs.length + ys.length ≤ lineM) : binP .Add (.lst xs) (.lst ys) = some (.own (.lst (xs ++ ys))) := by simp only [binP, c, if_true]
theorem bp_mulL (c : -(2 ^ 63) ≤ x ∧ x < 2 ^ 63 ∧ xs.length * x.toNat ≤ lineM) : binP .Mult (.lst xs) (.int x) = some (.own (.lst (List.replicate x.toNat xs).flatten)) := by simp only [binP, c, and_self, if_true]
theorem bp_mulT (c : 2 ≤ x ∧ x ≤ 1000 ∧ xs.length ≤ 1000 ∧ xs ≠ []) : binP .Mult (.tup xs) (.int x) = some (.val (.tup (List.replicate x.toNat xs).flatten)) := by simp only [binP, c, and_self, if_true, ne_eq, not_false_eq_true]
theorem shp_int {i : Int} : shp (.int i) = true := rfl
theorem eqP_int : eqP (.int x) (.int y) = some (x == y) := by
  simp [eqP, strOfP, eqDP, dP, shp_int, PyData.eqv]
theorem eqP_str {a b : Str} : eqP (.str a) (.str b) = some (decide (a = b)) := rfl
theorem cp_eqI : cmpP .Eq (.int x) (.int y) = some (x == y) := eqP_int
theorem cp_neI : cmpP .NotEq (.int x) (.int y) = some (!(x == y)) := by simp only [cmpP, eqP_int, Option.map_some]
theorem cp_eqS {a b : Str} : cmpP .Eq (.str a) (.str b) = some (decide (a = b)) := rfl
theorem cp_neS {a b : Str} : cmpP .NotEq (.str a) (.str b) = some (!decide (a = b)) := rfl
theorem cp_lt : cmpP .Lt (.int x) (.int y) = some (decide (x < y)) := rfl
theorem cp_le : cmpP .LtE (.int x) (.int y) = some (decide (x ≤ y)) := rfl
theorem cp_gt : cmpP .Gt (.int x) (.int y) = some (decide (y < x)) := rfl
theorem cp_ge : cmpP .GtE (.int x) (.int y) = some (decide (y ≤ x)) := rfl
theorem cp_in {v w : PV} : cmpP .In v w = inP v w := rfl
theorem cp_notin {v w : PV} : cmpP .NotIn v w = (inP v w).map (!·) := rfl
theorem cp_isN : cmpP .Is v .non = some (isNon v) := rfl
theorem cp_isnN : cmpP .IsNot v .non = some (!isNon v) := rfl
theorem mx_int : bltP .max [.int x, .int y] = some (.val (.int (if y > x then y else x))) := rfl
theorem mn_int : bltP .min [.int x, .int y] = some (.val (.int (if y < x then y else x))) := rfl
theorem ln_tup : bltP .len [.tup xs] = some (.val (.int xs.length)) := rfl
theorem ln_lst : bltP .len [.lst xs] = some (.val (.int xs.length)) := rfl
theorem ln_fro : bltP .len [.fro xs] = some (.val (.int xs.length)) := rfl
theorem tu_lst : bltP .tuple [.lst xs] = some (.val (.tup xs)) := rfl
theorem tu_tup : bltP .tuple [.tup xs] = some (.val (.tup xs)) := rfl
theorem li_tup : bltP .list [.tup xs] = some (.own (.lst xs)) := rfl
theorem li_lst : bltP .list [.lst xs] = some (.own (.lst xs)) := rfl
theorem in_bl : bltP .int [.bl b] = some (.val (.int (if b then 1 else 0))) := rfl
theorem in_int : bltP .int [.int x] = some (.val (.int x)) := rfl
end
theorem ixN_nat {n k : Nat} (h : k < n) : ixN n (k : Int) = some k := by unfold ixN; rw [if_pos (by omega), if_pos (by omega)]; simp
theorem at_nat {α : Type} {l : List α} {k : Nat} : atI l (k : Int) = l[k]? := by
  unfold atI
  by_cases h : k < l.length
  · rw [ixN_nat h]; rfl
  · unfold ixN; rw [if_pos (by omega), if_neg (by omega), List.getElem?_eq_none (by omega)]; rfl
/-- the last one -/
theorem at_last {α : Type} {l : List α} {a : α} : atI (l ++ [a]) (-1) = some a := by
  unfold atI ixN
  rw [if_neg (by omega), if_pos (by simp; omega)]
  have : ((-1 : Int) + ((l ++ [a]).length : Nat)).toNat = l.length := by simp; omega
  simp only [Option.bind_some, this]; simp
theorem at_0 {α : Type} {a : α} {l : List α} : atI (a :: l) 0 = some a := at_nat (k := 0)
theorem at_1 {α : Type} {a b : α} {l : List α} : atI (a :: b :: l) 1 = some b := at_nat (k := 1)
theorem at_2 {α : Type} {a b c : α} {l : List α} : atI (a :: b :: c :: l) 2 = some c := at_nat (k := 2)
theorem at_3 {α : Type} {a b c d : α} {l : List α} : atI (a :: b :: c :: d :: l) 3 = some d := at_nat (k := 3)
theorem ix_tup' {xs : List PV} {i : Int} : ixP (.tup xs) (.int i) = atI xs i := rfl
theorem ix_lst' {xs : List PV} {i : Int} : ixP (.lst xs) (.int i) = atI xs i := rfl
theorem set_nat {xs : List PV} {k : Nat} {v : PV} (h : k < xs.length) : setV (.lst xs) (.int (k : Int)) v = some (.lst (xs.set k v)) := by
  simp only [setV, ixN_nat h, Option.bind_some, h, if_true]
/-! ### the evaluator's rules, made so that nothing is looked at ahead of its turn -/
def ob {α β : Type} (o : Option α) (f : α → Q β) : Dep f (Q β) := match o with
  | some a => f a
  | none => .bad
def br {β : Type} (o : Option Bool) (a b : Q β) : Dep (a, b) (Q β) := match o with
  | some true => a
  | some false => b
  | none => .bad
theorem ob_some {α β : Type} {x : α} {f : α → Q β} : ob (some x) f = f x := rfl
theorem br_t {β : Type} {a b : Q β} : br (some true) a b = a := rfl
theorem br_f {β : Type} {a b : Q β} : br (some false) a b = b := rfl
def compD (cl : Nat → Cls) (tg : MT) (own : List Nat) (ts : PS → Q Bool) (el : PS → Q PV) (xs : List PV) (σ0 : PS) : Dep (ts, el) (Q (List PV)) := compQ cl tg own ts el xs σ0
def forD (step : PV → PS → Q FlP) (xs : List PV) (σ : PS) : Dep step (Q FlP) := forP step xs σ
def whlD (test : PS → Q Opd) (step : PS → Q FlP) (n : Nat) (σ : PS) : Dep (test, step) (Q FlP) := whlP test step n σ
section
variable {X : CQ} {σ : PS} {a b c e : ME} {es : List ME} {i : Nat}
theorem w_int {x : Int} : evP X (.c (.int x)) σ = .ok (.val (.int x)) σ := by simp only [evP]; rfl
theorem w_bl {x : Bool} : evP X (.c (.bl x)) σ = .ok (.val (.bl x)) σ := by simp only [evP]; rfl
theorem w_str {x : Str} : evP X (.c (.str x)) σ = .ok (.val (.str x)) σ := by simp only [evP]; rfl
theorem w_non : evP X (.c .non) σ = .ok (.val .non) σ := by simp only [evP]; rfl
theorem w_var : evP X (.var i) σ = ob (rdV σ i) fun v => if X.cl i = .sh then .ok (.val v) σ else .ok (.bor i) σ := by simp only [evP]; cases rdV σ i <;> rfl
theorem w_glb {x : Str} : evP X (.glb x) σ = ob (X.gl x) fun v => if noRef v then .ok (.val (emb v)) σ else .bad := by simp only [evP]; cases X.gl x <;> rfl
theorem w_tup : evP X (.tup es) σ = bnd (evPs X es σ) fun os σ => ob (forces X.cl os σ) fun p => .ok (.val (.tup p.1)) p.2 := by
  simp only [evP]; refine congrArg _ (funext fun os => funext fun σ => ?_); cases forces X.cl os σ <;> rfl
theorem w_lst : evP X (.lst es) σ = bnd (evPs X es σ) fun os σ => ob (forces X.cl os σ) fun p => .ok (.own (.lst p.1)) p.2 := by
  simp only [evP]; refine congrArg _ (funext fun os => funext fun σ => ?_); cases forces X.cl os σ <;> rfl
theorem oO_ob {α : Type} {o : Option α} {σ : PS} : oO o σ = ob o fun x => .ok x σ := by cases o <;> rfl
theorem oB_ob {o : Option Bool} {σ : PS} : oB o σ = ob o fun x => .ok (.val (.bl x)) σ := by cases o <;> rfl
theorem oV_ob {o : Option PV} {σ : PS} : oV o σ = ob o fun x => .ok (.val x) σ := by cases o <;> rfl
theorem w_bin {op : Operator} : evP X (.bin op a b) σ = bnd (evP X a σ) fun o σ => bnd (evP X b σ) fun p σ => ob (on2 σ o p (binP op)) fun x => .ok x σ := by simp only [evP, oO_ob]; rfl
theorem w_neg : evP X (.neg a) σ = bnd (evP X a σ) fun o σ => ob (intO σ o) fun i => .ok (.val (.int (-i))) σ := by
  simp only [evP]; refine congrArg _ (funext fun o => funext fun σ => ?_); cases intO σ o <;> rfl
theorem w_not : evP X (.not_ a) σ = bnd (evP X a σ) fun o σ => ob (on1 σ o truthP) fun x => .ok (.val (.bl (!x))) σ := by
  simp only [evP]; refine congrArg _ (funext fun o => funext fun σ => ?_); cases on1 σ o truthP <;> rfl
theorem w_cmp {op : CmpOp} : evP X (.cmp op a b) σ = bnd (evP X a σ) fun o σ => bnd (evP X b σ) fun p σ => ob (on2 σ o p (cmpP op)) fun x => .ok (.val (.bl x)) σ := by simp only [evP, oB_ob]; rfl
theorem w_chain {o1 o2 : CmpOp} : evP X (.chain o1 o2 a b c) σ = bnd (evP X a σ) fun o σ => bnd (evP X b σ) fun p σ => br (on2 σ o p (cmpP o1)) (bnd (evP X c σ) fun q σ => ob (on2 σ p q (cmpP o2)) fun x => .ok (.val (.bl x)) σ) (.ok (.val (.bl false)) σ) := by
  simp only [evP, oB_ob]; refine congrArg _ (funext fun o => funext fun σ => congrArg _ (funext fun p => funext fun σ => ?_)); rcases on2 σ o p (cmpP o1) with _ | (_ | _) <;> rfl
theorem w_and : evP X (.and_ a b) σ = bnd (evP X a σ) fun o σ => br (on1 σ o truthP) (evP X b σ) (.ok o σ) := by
  simp only [evP]; refine congrArg _ (funext fun o => funext fun σ => ?_); rcases on1 σ o truthP with _ | (_ | _) <;> rfl
theorem w_or : evP X (.or_ a b) σ = bnd (evP X a σ) fun o σ => br (on1 σ o truthP) (.ok o σ) (evP X b σ) := by
  simp only [evP]; refine congrArg _ (funext fun o => funext fun σ => ?_); rcases on1 σ o truthP with _ | (_ | _) <;> rfl
theorem w_ife : evP X (.ife c a b) σ = bnd (evP X c σ) fun o σ => br (on1 σ o truthP) (evP X a σ) (evP X b σ) := by
  simp only [evP]; refine congrArg _ (funext fun o => funext fun σ => ?_); rcases on1 σ o truthP with _ | (_ | _) <;> rfl
theorem w_ix : evP X (.ix a b) σ = bnd (evP X a σ) fun o σ => bnd (evP X b σ) fun p σ => ob (on2 σ o p ixP) fun x => .ok (.val x) σ := by simp only [evP, oV_ob]; rfl
theorem w_sl : evP X (.sl a) σ = bnd (evP X a σ) fun o σ => ob (on1 σ o fun x => slP x none none) fun x => .ok x σ := by simp only [evP, oO_ob]; rfl
theorem w_slL : evP X (.slL a b) σ = bnd (evP X a σ) fun o σ => bnd (evP X b σ) fun p σ => ob (intO σ p) fun i => ob (on1 σ o fun x => slP x (some i) none) fun x => .ok x σ := by
  simp only [evP, oO_ob]; congr 1; funext o σ; refine congrArg _ (funext fun p => funext fun σ => ?_); cases intO σ p <;> rfl
theorem w_slH : evP X (.slH a b) σ = bnd (evP X a σ) fun o σ => bnd (evP X b σ) fun p σ => ob (intO σ p) fun i => ob (on1 σ o fun x => slP x none (some i)) fun x => .ok x σ := by
  simp only [evP, oO_ob]; congr 1; funext o σ; refine congrArg _ (funext fun p => funext fun σ => ?_); cases intO σ p <;> rfl
theorem w_slB : evP X (.slB a b c) σ = bnd (evP X a σ) fun o σ => bnd (evP X b σ) fun p σ => ob (intO σ p) fun i => bnd (evP X c σ) fun q σ => ob (intO σ q) fun j => ob (on1 σ o fun x => slP x (some i) (some j)) fun x => .ok x σ := by
  simp only [evP, oO_ob]; congr 1; funext o σ; refine congrArg _ (funext fun p => funext fun σ => ?_); cases intO σ p with
  | none => rfl
  | some i => simp only [ob]; refine congrArg _ (funext fun q => funext fun σ => ?_); cases intO σ q <;> rfl
theorem w_rev : evP X (.rev a) σ = bnd (evP X a σ) fun o σ => ob (on1 σ o revP) fun x => .ok x σ := by simp only [evP, oO_ob]; rfl
theorem w_call {f : Str} : evP X (.call f es) σ = bnd (evPs X es σ) fun os σ => callP X f os σ := by simp only [evP]; rfl
theorem w_blt {f : Bi} : evP X (.blt f es) σ = bnd (evPs X es σ) fun os σ => ob (looks σ os) fun vs => ob (bltP f vs) fun x => .ok x σ := by
  simp only [evP, oO_ob]; refine congrArg _ (funext fun os => funext fun σ => ?_); cases looks σ os <;> rfl
theorem w_meth {m : Me} : evP X (.meth m a es) σ = bnd (evP X a σ) fun o σ => ob (on1 σ o kdP) fun kd => bnd (evPs X es σ) fun os σ => methO X.cl m kd o os σ := by
  simp only [evP]; refine congrArg _ (funext fun o => funext fun σ => ?_); cases on1 σ o kdP <;> rfl
theorem w_isi {t : Ty} : evP X (.isi a t) σ = bnd (evP X a σ) fun o σ => ob (on1 σ o fun x => isiP x t) fun x => .ok (.val (.bl x)) σ := by simp only [evP, oB_ob]; rfl
theorem w_dsp : evP X (.dsp es) σ = bnd (evPs X es σ) fun os σ => ob (forces X.cl os σ) fun p => ob (pairUpP p.1) fun ps => .ok (.own (.dct (ps.foldl (fun acc kv => putKP kv.1 kv.2 acc) []))) p.2 := by
  simp only [evP]; refine congrArg _ (funext fun os => funext fun σ => ?_); cases forces X.cl os σ with
  | none => rfl
  | some p => obtain ⟨vs, σ⟩ := p; simp only [ob]; cases pairUpP vs <;> rfl
theorem w_rngL : evP X (.rngL a b) σ = bnd (evP X a σ) fun o σ => bnd (evP X b σ) fun p σ => ob (on2 σ o p rngP) fun xs => .ok (.own (.lst xs)) σ := by
  simp only [evP]; congr 1; funext o σ; refine congrArg _ (funext fun p => funext fun σ => ?_); cases on2 σ o p rngP <;> rfl
theorem w_rngT : evP X (.rngT a b) σ = bnd (evP X a σ) fun o σ => bnd (evP X b σ) fun p σ => ob (on2 σ o p rngP) fun xs => .ok (.val (.tup xs)) σ := by
  simp only [evP]; congr 1; funext o σ; refine congrArg _ (funext fun p => funext fun σ => ?_); cases on2 σ o p rngP <;> rfl
/-- what a comprehension walks, where it may be made -/
def lcSrc (cl : Nat → Cls) (tg : MT) (own : List Nat) (ik : IK) (oa ob : Opd) (σ : PS) : Option (PV × PV × List PV × PS) := match srcP ik oa ob σ with
  | some (x, y, xs, σ) => if lcOk cl tg own && decide (xs.length ≤ lineM) then some (x, y, xs, σ) else none
  | none => none
theorem w_lc {tg : MT} {ik : IK} {ifs : List ME} {own : List Nat} : evP X (.lc e tg ik a b ifs own) σ = bnd (evP X a σ) fun oa σ => bnd (evP X b σ) fun ob' σ => ob (lcSrc X.cl tg own ik oa ob' σ) fun p =>
    bnd (compD X.cl tg own (fun σ => evPts X ifs σ) (fun σ => bnd (evP X e σ) fun o σ => forceQ X.cl o σ) p.2.2.1 p.2.2.2) fun vs σ => .ok (.own (.lst vs)) (unlockO oa p.1 (unlockO ob' p.2.1 σ)) := by
  simp only [evP]; congr 1; funext oa σ; congr 1; funext ob' σ
  unfold lcSrc
  cases srcP ik oa ob' σ with
  | none => rfl
  | some p =>
    obtain ⟨x, y, xs, σ⟩ := p
    dsimp only
    split <;> rfl
theorem w_es0 : evPs X [] σ = .ok [] σ := by simp only [evPs]
theorem w_es1 : evPs X (e :: es) σ = bnd (evP X e σ) fun o σ => bnd (evPs X es σ) fun os σ => .ok (o :: os) σ := by simp only [evPs]; rfl
theorem w_ts0 : evPts X [] σ = .ok true σ := by simp only [evPts]
theorem w_ts1 : evPts X (e :: es) σ = bnd (evP X e σ) fun o σ => br (on1 σ o truthP) (evPts X es σ) (.ok false σ) := by
  simp only [evPts]; refine congrArg _ (funext fun o => funext fun σ => ?_); rcases on1 σ o truthP with _ | (_ | _) <;> rfl
theorem w_asg {tg : MT} : evT X (.asg tg e) σ = bnd (evP X e σ) fun o σ => ob (asgF X.cl tg o σ) fun σ => .ok .nx σ := by
  simp only [evT]; refine congrArg _ (funext fun o => funext fun σ => ?_); cases asgF X.cl tg o σ <;> rfl
def subO (cl : Nat → Cls) (oe ob oi : Opd) (σ : PS) : Option PS := match force cl oe σ with
  | some (v, σ) => match ob, lookO σ oi with
    | .bor j, some y => if canP cl j then ((rdV σ j).bind fun x => setV x y v.v).map fun x' => σ.set j (some x') else none
    | _, _ => none
  | none => none
theorem w_asgSub : evT X (.asgSub a b e) σ = bnd (evP X e σ) fun oe σ => bnd (evP X a σ) fun ob' σ => bnd (evP X b σ) fun oi σ => ob (subO X.cl oe ob' oi σ) fun σ => .ok .nx σ := by
  simp only [evT]; congr 1; funext oe σ; congr 1; funext ob' σ; congr 1; funext oi σ
  unfold subO
  cases force X.cl oe σ with
  | none => rfl
  | some p =>
    obtain ⟨v, σ⟩ := p
    cases ob' with
    | val _ => rfl
    | own _ => rfl
    | bor j =>
      dsimp only
      cases lookO σ oi with
      | none => rfl
      | some y =>
        dsimp only
        split
        · cases (rdV σ j).bind fun x => setV x y v.v <;> rfl
        · rfl
theorem w_expr : evT X (.expr e) σ = bnd (evP X e σ) fun _ σ => .ok .nx σ := by simp only [evT]; rfl
theorem w_ret : evT X (.ret e) σ = bnd (evP X e σ) fun o σ => ob (force X.cl o σ) fun p => .ok (.ret p.1) p.2 := by
  simp only [evT]; refine congrArg _ (funext fun o => funext fun σ => ?_); cases force X.cl o σ <;> rfl
theorem w_retN : evT X .retN σ = .ok (.ret (.val .non)) σ := by simp only [evT]
theorem w_ite {s t : List MS} : evT X (.ite e s t) σ = bnd (evP X e σ) fun o σ => br (on1 σ o truthP) (evTs' X s σ) (evTs' X t σ) := by
  simp only [evT]; refine congrArg _ (funext fun o => funext fun σ => ?_); rcases on1 σ o truthP with _ | (_ | _) <;> rfl
theorem w_for {tg : MT} {ik : IK} {s : List MS} : evT X (.for_ tg ik a b s) σ = bnd (evP X a σ) fun oa σ => bnd (evP X b σ) fun ob' σ => ob (srcP ik oa ob' σ) fun p =>
    bnd (forD (fun v σ => forStepP (asgP X.cl tg v σ) (fun σ => evTs' X s σ)) p.2.2.1 p.2.2.2) fun fl σ => .ok fl (unlockO oa p.1 (unlockO ob' p.2.1 σ)) := by
  simp only [evT]; congr 1; funext oa σ; refine congrArg _ (funext fun ob' => funext fun σ => ?_); cases srcP ik oa ob' σ <;> rfl
theorem w_whl {s : List MS} : evT X (.whl e s) σ = whlD (fun σ => evP X e σ) (fun σ => evTs' X s σ) X.fuel σ := by simp only [evT]; rfl
theorem w_pass : evT X .pass σ = .ok .nx σ := by simp only [evT]
theorem w_brk : evT X .brk σ = .ok .brk σ := by simp only [evT]
theorem w_cont : evT X .cont σ = .ok .cont σ := by simp only [evT]
theorem w_ss0 : evTs' X [] σ = .ok .nx σ := by simp only [evTs']
/-- the statements behind -/
def thenP (X : CQ) (ss : List MS) (fl : FlP) (σ : PS) : Q FlP := match fl with
  | .nx => evTs' X ss σ
  | f => .ok f σ
theorem w_ss1 {s : MS} {ss : List MS} : evTs' X (s :: ss) σ = bnd (evT X s σ) (thenP X ss) := by
  simp only [evTs']; refine congrArg _ (funext fun fl => funext fun σ => ?_); cases fl <;> rfl
theorem tk (n : Nat) {ss : List MS} : evTs' X ss σ = bnd (evTs' X (ss.take n) σ) (thenP X (ss.drop n)) := by
  rw [tk' n]; refine congrArg _ (funext fun fl => funext fun σ => ?_); cases fl <;> rfl
theorem th_nx {ss : List MS} : thenP X ss .nx σ = evTs' X ss σ := rfl
theorem th_ret {ss : List MS} {o : Opd} : thenP X ss (.ret o) σ = .ok (.ret o) σ := rfl
theorem th_brk {ss : List MS} : thenP X ss .brk σ = .ok .brk σ := rfl
theorem th_cont {ss : List MS} : thenP X ss .cont σ = .ok .cont σ := rfl
end
def lcNx (el : PS → Q PV) (b : Bool) (σ : PS) : Q (Option PV) := match b with
  | true => bnd (el σ) fun y σ => .ok (some y) σ
  | false => .ok none σ
theorem lc_some {ts : PS → Q Bool} {el : PS → Q PV} {σ : PS} : lcStepP (some σ) ts el = bnd (ts σ) (lcNx el) := by
  show (ts σ).bind _ = (ts σ).bind _
  refine congrArg _ (funext fun b => funext fun σ => ?_); cases b <;> rfl
theorem lc_t {el : PS → Q PV} {σ : PS} : lcNx el true σ = bnd (el σ) fun y σ => .ok (some y) σ := rfl
theorem lc_f {el : PS → Q PV} {σ : PS} : lcNx el false σ = .ok none σ := rfl
theorem fs_some {b : PS → Q FlP} {σ : PS} : forStepP (some σ) b = b σ := rfl
/-! ### loops -/
theorem rng_len {lo : Int} {n : Nat} : (rngIP lo n).length = n := by simp [rngIP]
theorem rng_at {lo : Int} {n i : Nat} {v : PV} (e : (rngIP lo n)[i]? = some v) : v = .int (lo + i) ∧ i < n := by
  have := List.getElem?_eq_some_iff.mp e
  obtain ⟨h, e⟩ := this
  simp [rngIP] at h e
  exact ⟨e.symm, h⟩
theorem it_rng' {n : Nat} (h : n ≤ 1000000) : itP .rng1 (.int (n : Int)) .non = some (rngIP 0 n) := by
  simp only [itP]
  rw [if_pos (by omega)]
  simp
theorem it_rng2' {m n : Nat} (h : n ≤ 1000000) (h2 : m ≤ 1000000) : itP .rng2 (.int (m : Int)) (.int (n : Int)) = some (rngIP m (n - m)) := by
  simp only [itP]
  rw [if_pos (by omega)]
  congr 2
  omega
theorem rngP_ok {n : Nat} (h : n ≤ 1000000) : rngP (.int 0) (.int (n : Int)) = some (rngIP 0 n) := by
  simp only [rngP]
  rw [if_pos (by refine ⟨by omega, by omega, by omega, by omega, ?_⟩; simp [lineM]; exact h)]
  simp
theorem it_tup {xs : List PV} : itP .val (.tup xs) .non = some xs := rfl
theorem it_lst {xs : List PV} : itP .val (.lst xs) .non = some xs := rfl
theorem it_etup {xs : List PV} : itP .enum (.tup xs) .non = some (enumP xs) := rfl
theorem it_elst {xs : List PV} : itP .enum (.lst xs) .non = some (enumP xs) := rfl
theorem pop_at {xs : List PV} {k : Nat} (h : k < xs.length) (h2 : k < 1000000) : methP .pop (.lst xs) [.int (k : Int)] = some (xs[k], .lst (xs.eraseIdx k)) := by
  simp only [methP]
  rw [if_pos (by omega)]
  simp [h]
theorem app_at {xs : List PV} {v : PV} (h : xs.length < 1000000) : methP .append (.lst xs) [v] = some (.non, .lst (xs ++ [v])) := by
  simp only [methP]
  rw [if_pos (by simpa [lineM] using h)]
theorem erase_perm {α : Type} : ∀ {l : List α} {k : Nat} (h : k < l.length), (l[k] :: l.eraseIdx k).Perm l
  | a :: l, 0, _ => by simp
  | a :: l, k + 1, h => by
    simp only [List.getElem_cons_succ, List.eraseIdx_cons_succ]
    exact (List.Perm.swap _ _ _).trans ((erase_perm (by simpa using h)).cons a)
theorem lm_le {n : Nat} (h : n ≤ 1000000) : decide (n ≤ lineM) = true := decide_eq_true (show n ≤ lineM from h)
theorem forP_inv {xs : List PV} {step : PV → PS → Q FlP} {σ : PS} (I : Nat → PS → Prop) (h0 : I 0 σ)
    (turn : ∀ i v σ, xs[i]? = some v → I i σ → Evq (step v σ) fun fl σ' => (fl = .nx ∨ fl = .cont) ∧ I (i + 1) σ') : Evq (forP step xs σ) fun fl σ' => fl = .nx ∧ I xs.length σ' := by
  have go : ∀ (rest pre : List PV) (σ : PS), xs = pre ++ rest → I pre.length σ → Evq (forP step rest σ) fun fl σ' => fl = .nx ∧ I xs.length σ' := by
    intro rest
    induction rest with
    | nil => intro pre σ e p; simp only [forP]; refine .ok ⟨rfl, ?_⟩; rw [e]; simpa using p
    | cons v rest ih =>
      intro pre σ e p
      simp only [forP]
      refine .bind ((turn pre.length v σ (by rw [e]; simp) p).imp fun fl σ' q => ?_)
      have := ih (pre ++ [v]) σ' (by rw [e]; simp) (by simpa using q.2)
      rcases q.1 with rfl | rfl <;> exact this
  exact go xs [] σ rfl h0
/-- a loop that may tell something -/
theorem forP_ret {xs : List PV} {step : PV → PS → Q FlP} {σ : PS} (I : Nat → PS → Prop) (R : Opd → PS → Prop) (h0 : I 0 σ)
    (turn : ∀ i v σ, xs[i]? = some v → I i σ → Evq (step v σ) fun fl σ' => match fl with
      | .nx => I (i + 1) σ'
      | .cont => I (i + 1) σ'
      | .ret o => R o σ'
      | .brk => False) : Evq (forP step xs σ) fun fl σ' => match fl with
      | .nx => I xs.length σ'
      | .ret o => R o σ'
      | _ => False := by
  have go : ∀ (rest pre : List PV) (σ : PS), xs = pre ++ rest → I pre.length σ → Evq (forP step rest σ) fun fl σ' => match fl with
      | .nx => I xs.length σ'
      | .ret o => R o σ'
      | _ => False := by
    intro rest
    induction rest with
    | nil => intro pre σ e p; simp only [forP]; refine .ok ?_; rw [e]; simpa using p
    | cons v rest ih =>
      intro pre σ e p
      simp only [forP]
      refine .bind ((turn pre.length v σ (by rw [e]; simp) p).imp fun fl σ' q => ?_)
      cases fl with
      | nx => exact ih (pre ++ [v]) σ' (by rw [e]; simp) (by simpa using q)
      | cont => exact ih (pre ++ [v]) σ' (by rw [e]; simp) (by simpa using q)
      | ret o => exact .ok q
      | brk => exact q.elim
  exact go xs [] σ rfl h0
theorem wipe_rest {σ0 σ : PS} {own : List Nat} (h : wipeP σ own = wipeP σ0 own) : restP σ0 own σ = σ0 := by
  apply List.ext_getElem?
  intro i
  have hl : σ.length = σ0.length := by rw [← wipeP_len (own := own), h, wipeP_len]
  have := congrArg (fun l => l[i]?) h
  simp only [wipeP_get] at this
  rw [restP_get]
  split
  · by_cases lt : i < σ.length
    · rw [if_pos lt]
      have lt0 : i < σ0.length := by omega
      rw [List.getElem?_eq_getElem lt0]
      rfl
    · rw [if_neg lt, List.getElem?_eq_none (by omega)]
  · rename_i hn
    rw [if_neg hn, if_neg hn] at this
    exact this
/-- a comprehension that changes nothing -/
theorem compQ_pure {α : Type} {L : List α} {f : α → PV} {g : α → Option PV} {cl : Nat → Cls} {tg : MT} {own : List Nat} {ts : PS → Q Bool} {el : PS → Q PV} {σ0 : PS}
    (hs : ∀ a ∈ L, ∃ σa, lcStepP (asgP cl tg (f a) (wipeP σ0 own)) ts el = .ok (g a) σa ∧ wipeP σa own = wipeP σ0 own) : compQ cl tg own ts el (L.map f) σ0 = .ok (L.filterMap g) σ0 := by
  have go : ∀ (L : List α), (∀ a ∈ L, ∃ σa, lcStepP (asgP cl tg (f a) (wipeP σ0 own)) ts el = .ok (g a) σa ∧ wipeP σa own = wipeP σ0 own) → ∀ σ, wipeP σ own = wipeP σ0 own → ∃ σ', compP (fun v σ => lcStepP (asgP cl tg v (wipeP σ own)) ts el) (L.map f) σ = .ok (L.filterMap g) σ' ∧ wipeP σ' own = wipeP σ0 own := by
    intro L
    induction L with
    | nil => intro _ σ h; exact ⟨σ, rfl, h⟩
    | cons a L ih =>
      intro hs σ h
      obtain ⟨σa, e1, e2⟩ := hs a (List.mem_cons_self ..)
      obtain ⟨σ', e3, e4⟩ := ih (fun a q => hs a (List.mem_cons_of_mem _ q)) σa e2
      refine ⟨σ', ?_, e4⟩
      simp only [List.map_cons, compP, h, e1, qq_ok]
      rw [e3]
      simp only [qq_ok]
      cases q : g a <;> simp [q]
  obtain ⟨σ', e1, e2⟩ := go L hs σ0 rfl
  unfold compQ
  rw [e1]
  simp only [qq_ok, wipe_rest e2]
/-- a comprehension that may change variables: their state after each turn -/
theorem compQ_inv {xs : List PV} {cl : Nat → Cls} {tg : MT} {own : List Nat} {ts : PS → Q Bool} {el : PS → Q PV} {σ0 : PS} (I : Nat → List PV → PS → Prop) (h0 : I 0 [] (wipeP σ0 own))
    (turn : ∀ i v ys σ, xs[i]? = some v → I i ys σ → Evq (lcStepP (asgP cl tg v σ) ts el) fun o σ' => I (i + 1) (ys ++ o.toList) (wipeP σ' own))
    {P : List PV → PS → Prop} (fin : ∀ ys σ, I xs.length ys (wipeP σ own) → P ys (restP σ0 own σ)) : Evq (compQ cl tg own ts el xs σ0) P := by
  have go : ∀ (rest pre : List PV) (ys : List PV) (σ : PS), xs = pre ++ rest → I pre.length ys (wipeP σ own) → Evq (compP (fun v σ => lcStepP (asgP cl tg v (wipeP σ own)) ts el) rest σ) fun zs σ' => I xs.length (ys ++ zs) (wipeP σ' own) := by
    intro rest
    induction rest with
    | nil => intro pre ys σ e p; simp only [compP]; refine .ok ?_; rw [e]; simpa using p
    | cons v rest ih =>
      intro pre ys σ e p
      simp only [compP]
      refine .bind ((turn pre.length v ys (wipeP σ own) (by rw [e]; simp) p).imp fun o σ' q => ?_)
      refine .bind ((ih (pre ++ [v]) (ys ++ o.toList) σ' (by rw [e]; simp) (by simpa using q)).imp fun zs σ2 q2 => ?_)
      exact .ok (by simpa using q2)
  unfold compQ
  refine .bind ((go xs [] [] σ0 rfl h0).imp fun zs σ' q => ?_)
  exact .ok (fin zs σ' (by simpa using q))
/-- a while, by a measure -/
theorem whlP_inv {test : PS → Q Opd} {step : PS → Q FlP} (I : Nat → PS → Prop) (D : PS → Prop) {k : Nat} {σ : PS} (h0 : I k σ)
    (turn : ∀ k σ, I k σ → Evq (test σ) fun o σ' => (on1 σ' o truthP = some false ∧ D σ') ∨ (on1 σ' o truthP = some true ∧ Evq (step σ') fun fl σ2 => (fl = .nx ∨ fl = .cont) ∧ ∃ k', k' < k ∧ I k' σ2)) :
    ∀ n, k < n → Evq (whlP test step n σ) fun fl σ' => fl = .nx ∧ D σ' := by
  intro n
  induction n generalizing k σ with
  | zero => intro z; omega
  | succ n ih =>
    intro hn
    simp only [whlP]
    refine .bind ((turn k σ h0).imp fun o σ' q => ?_)
    rcases q with ⟨t, d⟩ | ⟨t, q⟩
    · rw [t]; exact .ok ⟨rfl, d⟩
    · rw [t]
      refine .bind (q.imp fun fl σ2 z => ?_)
      obtain ⟨e, k', lt, i2⟩ := z
      have := ih i2 (by omega)
      rcases e with rfl | rfl <;> exact this
theorem forD_inv {xs : List PV} {step : PV → PS → Q FlP} {σ : PS} (I : Nat → PS → Prop) (h0 : I 0 σ)
    (turn : ∀ i v σ, xs[i]? = some v → I i σ → Evq (step v σ) fun fl σ' => (fl = .nx ∨ fl = .cont) ∧ I (i + 1) σ') : Evq (forD step xs σ) fun fl σ' => fl = .nx ∧ I xs.length σ' := forP_inv I h0 turn
/-- what a loop's turn leaves, where it may tell something -/
def TP (I : PS → Prop) (R : Opd → PS → Prop) (fl : FlP) (σ : PS) : Prop := match fl with
  | .nx => I σ
  | .cont => I σ
  | .ret o => R o σ
  | .brk => False
theorem TP.nx {I : PS → Prop} {R : Opd → PS → Prop} {σ : PS} (h : I σ) : TP I R .nx σ := h
theorem TP.ret {I : PS → Prop} {R : Opd → PS → Prop} {σ : PS} {o : Opd} (h : R o σ) : TP I R (.ret o) σ := h
theorem forD_ret {xs : List PV} {step : PV → PS → Q FlP} {σ : PS} (I : Nat → PS → Prop) (R : Opd → PS → Prop) (h0 : I 0 σ)
    (turn : ∀ i v σ, xs[i]? = some v → I i σ → Evq (step v σ) (TP (I (i + 1)) R)) : Evq (forD step xs σ) fun fl σ' => (fl = .nx ∧ I xs.length σ') ∨ ∃ o, fl = .ret o ∧ R o σ' :=
  (forP_ret I R h0 fun i v σ h1 h2 => (turn i v σ h1 h2).imp fun fl σ' q => by cases fl <;> exact q).imp fun fl σ' q => by
    cases fl with
    | nx => exact .inl ⟨rfl, q⟩
    | ret o => exact .inr ⟨o, rfl, q⟩
    | brk => exact q.elim
    | cont => exact q.elim
theorem compD_pure {α : Type} {L : List α} {f : α → PV} {g : α → Option PV} {cl : Nat → Cls} {tg : MT} {own : List Nat} {ts : PS → Q Bool} {el : PS → Q PV} {σ0 : PS}
    (hs : ∀ a ∈ L, ∃ σa, lcStepP (asgP cl tg (f a) (wipeP σ0 own)) ts el = .ok (g a) σa ∧ wipeP σa own = wipeP σ0 own) : compD cl tg own ts el (L.map f) σ0 = .ok (L.filterMap g) σ0 := compQ_pure hs
theorem rest_wipe {σ0 : PS} {own : List Nat} {σ : PS} : restP σ0 own σ = restP σ0 own (wipeP σ own) := by
  apply List.ext_getElem?
  intro i
  rw [restP_get, restP_get, wipeP_len, wipeP_get]
  split <;> rfl
theorem compD_inv {xs : List PV} {cl : Nat → Cls} {tg : MT} {own : List Nat} {ts : PS → Q Bool} {el : PS → Q PV} {σ0 : PS} (I : Nat → List PV → PS → Prop) (h0 : I 0 [] (wipeP σ0 own))
    (turn : ∀ i v ys σ, xs[i]? = some v → I i ys σ → Evq (lcStepP (asgP cl tg v σ) ts el) fun o σ' => I (i + 1) (ys ++ o.toList) (wipeP σ' own))
    {P : List PV → PS → Prop} (fin : ∀ ys τ, I xs.length ys τ → P ys (restP σ0 own τ)) : Evq (compD cl tg own ts el xs σ0) P := compQ_inv I h0 turn fun ys σ h => by rw [rest_wipe]; exact fin ys _ h
theorem nd_ne {α : Type} {l : List α} (h : l.Nodup) {i j : Nat} (hi : i < l.length) (hj : j < l.length) (e : l[i] = l[j]) : i = j := by
  have := List.pairwise_iff_getElem.mp h
  rcases Nat.lt_trichotomy i j with c | c | c
  · exact absurd e (this i j hi hj c)
  · exact c
  · exact absurd e.symm (this j i hj hi c)
theorem whlD_inv {test : PS → Q Opd} {step : PS → Q FlP} (I : Nat → PS → Prop) (D : PS → Prop) {k : Nat} {σ : PS} (h0 : I k σ)
    (turn : ∀ k σ, I k σ → Evq (test σ) fun o σ' => (on1 σ' o truthP = some false ∧ D σ') ∨ (on1 σ' o truthP = some true ∧ Evq (step σ') fun fl σ2 => (fl = .nx ∨ fl = .cont) ∧ ∃ k', k' < k ∧ I k' σ2)) :
    ∀ n, k < n → Evq (whlD test step n σ) fun fl σ' => fl = .nx ∧ D σ' := whlP_inv I D h0 turn
theorem perm_map_inv {α β : Type} {f : α → β} {l' l : List β} (h : l'.Perm l) : ∀ ts : List α, l = ts.map f → ∃ zs : List α, l' = zs.map f ∧ zs.Perm ts := by
  induction h with
  | nil => intro ts e; obtain rfl : ts = [] := by simpa using e.symm
           exact ⟨[], rfl, .refl _⟩
  | cons x _ ih =>
    intro ts e
    cases ts with
    | nil => cases e
    | cons t ts => simp at e; obtain ⟨rfl, e⟩ := e; obtain ⟨zs, rfl, h⟩ := ih ts e; exact ⟨t :: zs, rfl, h.cons _⟩
  | swap x y l =>
    intro ts e
    match ts, e with
    | [], e => cases e
    | [_], e => simp at e
    | a :: b :: ts, e => simp at e; obtain ⟨rfl, rfl, rfl⟩ := e; exact ⟨b :: a :: ts, rfl, .swap _ _ _⟩
  | trans _ _ ih1 ih2 =>
    intro ts e
    obtain ⟨z2, e2, h2⟩ := ih2 ts e
    obtain ⟨z1, e1, h1⟩ := ih1 z2 e2
    exact ⟨z1, e1, h1.trans h2⟩
/-- one of a written list -/
theorem pick {l : List PV} {r : Int} (h0 : 0 ≤ r) (h1 : r < l.length) : ∃ x ∈ l, atI l r = some x := by
  obtain ⟨k, rfl⟩ : ∃ k : Nat, r = (k : Int) := ⟨r.toNat, by omega⟩
  have hk : k < l.length := by omega
  exact ⟨l[k], List.getElem_mem hk, by rw [at_nat, List.getElem?_eq_getElem hk]⟩
theorem cut_h {xs : List PV} {k : Nat} : cutP xs none (some (k : Int)) = xs.take k := by
  simp only [cutP, HT.sIx_none, List.drop_zero, Nat.sub_zero, HT.sIx_nat]
  rcases Nat.le_total k xs.length with h | h
  · rw [Nat.min_eq_left h]
  · rw [Nat.min_eq_right h, List.take_of_length_le h, List.take_of_length_le (Nat.le_refl _)]
theorem cut_l {xs : List PV} {k : Nat} : cutP xs (some (k : Int)) none = xs.drop k := by
  simp only [cutP, HT.sIx_none, HT.sIx_nat]
  rcases Nat.le_total k xs.length with h | h
  · rw [Nat.min_eq_left h]; exact List.take_of_length_le (by simp)
  · rw [Nat.min_eq_right h, List.drop_of_length_le h, List.drop_of_length_le (Nat.le_refl _)]; simp
theorem cut_b {xs : List PV} {k j : Nat} (h : k ≤ j) : cutP xs (some (k : Int)) (some (j : Int)) = (xs.drop k).take (j - k) := by
  simp only [cutP, HT.sIx_nat]
  rcases Nat.le_total k xs.length with h1 | h1
  · rw [Nat.min_eq_left h1]
    rcases Nat.le_total j xs.length with h2 | h2
    · rw [Nat.min_eq_left h2]
    · rw [Nat.min_eq_right h2, List.take_of_length_le (by simp), List.take_of_length_le (by simp; omega)]
  · rw [Nat.min_eq_right h1, List.drop_of_length_le h1, List.drop_of_length_le (Nat.le_refl _)]; simp
theorem sp_h {xs : List PV} {k : Nat} : slP (.tup xs) none (some (k : Int)) = some (.val (.tup (xs.take k))) := by simp only [slP, cut_h]
theorem sp_l {xs : List PV} {k : Nat} : slP (.tup xs) (some (k : Int)) none = some (.val (.tup (xs.drop k))) := by simp only [slP, cut_l]
theorem sp_b {xs : List PV} {k j : Nat} (h : k ≤ j) : slP (.tup xs) (some (k : Int)) (some (j : Int)) = some (.val (.tup ((xs.drop k).take (j - k)))) := by simp only [slP, cut_b h]
theorem sl_hL {xs : List PV} {k : Nat} : slP (.lst xs) none (some (k : Int)) = some (.own (.lst (xs.take k))) := by simp only [slP, cut_h]
theorem sl_lL {xs : List PV} {k : Nat} : slP (.lst xs) (some (k : Int)) none = some (.own (.lst (xs.drop k))) := by simp only [slP, cut_l]
theorem rv_tup {xs : List PV} : revP (.tup xs) = some (.val (.tup xs.reverse)) := rfl
theorem is_tup {xs : List PV} {t : Ty} : isiP (.tup xs) t = some (decide (t = .tuple)) := rfl
theorem is_int {x : Int} {t : Ty} : isiP (.int x) t = some (decide (t = .int)) := rfl
theorem is_bl {x : Bool} {t : Ty} : isiP (.bl x) t = some (decide (t = .int) || decide (t = .bool)) := rfl
theorem is_lst {xs : List PV} {t : Ty} : isiP (.lst xs) t = some (decide (t = .list)) := rfl
theorem is_str {x : Str} {t : Ty} : isiP (.str x) t = some (decide (t = .str)) := rfl
theorem is_non {t : Ty} : isiP .non t = some false := rfl
theorem compD_id {L : List PV} {g : PV → Option PV} {cl : Nat → Cls} {tg : MT} {own : List Nat} {ts : PS → Q Bool} {el : PS → Q PV} {σ0 : PS}
    (hs : ∀ a ∈ L, Evq (lcStepP (asgP cl tg a (wipeP σ0 own)) ts el) fun o σa => o = g a ∧ wipeP σa own = wipeP σ0 own) : compD cl tg own ts el L σ0 = .ok (L.filterMap g) σ0 := by
  have := compD_pure (f := id) (L := L) (g := g) (cl := cl) (tg := tg) (own := own) (ts := ts) (el := el) (σ0 := σ0) fun a ha => by
    obtain ⟨o, σa, e, rfl, h⟩ := hs a ha
    exact ⟨σa, e, h⟩
  rwa [List.map_id] at this
/-- one value for each -/
theorem compD_map {L : List PV} {g : PV → PV} {cl : Nat → Cls} {tg : MT} {own : List Nat} {ts : PS → Q Bool} {el : PS → Q PV} {σ0 : PS}
    (hs : ∀ a ∈ L, Evq (lcStepP (asgP cl tg a (wipeP σ0 own)) ts el) fun o σa => o = some (g a) ∧ wipeP σa own = wipeP σ0 own) : compD cl tg own ts el L σ0 = .ok (L.map g) σ0 := by
  rw [compD_id hs]
  simp
/-- those of which p holds -/
theorem compD_flt {L : List PV} {p : PV → Bool} {cl : Nat → Cls} {tg : MT} {own : List Nat} {ts : PS → Q Bool} {el : PS → Q PV} {σ0 : PS}
    (hs : ∀ a ∈ L, Evq (lcStepP (asgP cl tg a (wipeP σ0 own)) ts el) fun o σa => o = (if p a then some a else none) ∧ wipeP σa own = wipeP σ0 own) : compD cl tg own ts el L σ0 = .ok (L.filter p) σ0 := by
  rw [compD_id hs]
  congr 1
  rw [← List.filterMap_eq_filter]
  rfl
/-- over a written list -/
theorem compD_of {α : Type} {L : List α} {f : α → PV} {g : α → Option PV} {cl : Nat → Cls} {tg : MT} {own : List Nat} {ts : PS → Q Bool} {el : PS → Q PV} {σ0 : PS}
    (hs : ∀ a ∈ L, Evq (lcStepP (asgP cl tg (f a) (wipeP σ0 own)) ts el) fun o σa => o = g a ∧ wipeP σa own = wipeP σ0 own) : compD cl tg own ts el (L.map f) σ0 = .ok (L.filterMap g) σ0 :=
  compD_pure fun a ha => by
    obtain ⟨o, σa, e, rfl, h⟩ := hs a ha
    exact ⟨σa, e, h⟩
theorem allBls_map {α : Type} {L : List α} {p : α → Bool} : allBlsP (L.map fun a => .bl (p a)) = some (L.map p) := by
  induction L with
  | nil => rfl
  | cons a L ih => simp [allBlsP, ih]
theorem all_map {α : Type} {L : List α} {p : α → Bool} : bltP .all [.lst (L.map fun a => .bl (p a))] = some (.val (.bl (L.all p))) := by
  simp only [bltP, lstsP, Option.bind_some, allBls_map, Option.map_some]
  simp
/-- neither shut nor only read -/
def plain : PV → Bool
  | .fro _ => false
  | .lck => false
  | _ => true
theorem plain_lk {v : PV} (h : plain v = true) : isLk v = false := by cases v <;> first | rfl | cases h
theorem len2 {α : Type} {l : List α} (h : l.length = 2) : ∃ a b, l = [a, b] := by
  match l, h with
  | [a, b], _ => exact ⟨a, b, rfl⟩
theorem len3 {α : Type} {l : List α} (h : l.length = 3) : ∃ a b c, l = [a, b, c] := by
  match l, h with
  | [a, b, c], _ => exact ⟨a, b, c, rfl⟩
theorem beq_cast {n k : Nat} (h : n ≠ k) : ((n : Int) == (k : Int)) = false := by rw [beq_eq_false_iff_ne]; omega
end Mn

set_option autoImplicit false
set_option maxHeartbeats 1000000
/-! PShw: texts of trees. -/
namespace Mn
open PySem L2
def sums (ts : List Str) : Nat := (ts.map fun t => t.length + 2).sum
theorem txt_le : ∀ (ts : List Str) (k : Nat) (acc : Str), (textFrom k acc ts).length ≤ acc.length + sums ts
  | [], _, acc => by simp [textFrom, sums]
  | t :: r, k, acc => by
    have h := txt_le r (k + 1) (acc ++ (if k > 0 then ", " else "" : String) ++ t)
    have e : (acc ++ (if k > 0 then ", " else "" : String) ++ t).length ≤ acc.length + 2 + t.length := by
      rw [Str.length_append, Str.length_append]
      split <;> simp [show ((", " : String) : Str).length = 2 from rfl, show (("" : String) : Str).length = 0 from rfl]
    simp only [sums, List.map_cons, List.sum_cons] at h ⊢
    simp only [textFrom]
    omega
theorem list_le (ts : List Str) : (listText ts).length ≤ 2 + sums ts := by
  have := txt_le ts 0 "["
  have e : (("[" : String) : Str).length = 1 := rfl
  have e2 : (("]" : String) : Str).length = 1 := rfl
  unfold listText
  rw [Str.length_append, e2]
  omega
theorem join_le (ts : List Str) : (Str.join ", " ts).length ≤ sums ts := by
  match ts with
  | [] => exact Nat.zero_le _
  | [x] => simp [Str.join, sums]
  | x :: y :: r =>
    have ih := join_le (y :: r)
    have e : (Str.join ", " (x :: y :: r)) = x ++ ", " ++ Str.join ", " (y :: r) := rfl
    have e2 : ((", " : String) : Str).length = 2 := rfl
    rw [e, Str.length_append, Str.length_append, e2]
    simp only [sums, List.map_cons, List.sum_cons] at ih ⊢
    omega
theorem tuple_le (ts : List Str) : (tupleText ts).length ≤ 3 + sums ts := by
  have h := join_le ts
  have e : (("(" : String) : Str).length = 1 := rfl
  unfold tupleText
  rw [Str.length_append, Str.length_append, e]
  have e2 : (((if ts.length == 1 then ",)" else ")" : String)) : Str).length ≤ 2 := by split <;> decide
  omega
mutual
/-- no dict, ints of at most forty-five figures, right texts -/
def gD : PyData → Bool
  | .none => true
  | .bool _ => true
  | .int i => decide (i.natAbs < 10 ^ 45)
  | .str x => PyData.strOk x
  | .list xs => gDs xs
  | .tuple xs => gDs xs
  | .dict _ => false
def gDs : List PyData → Bool
  | [] => true
  | x :: xs => gD x && gDs xs
end
mutual
def zD : PyData → Nat
  | .none => 5
  | .bool _ => 5
  | .int _ => 46
  | .str x => 10 * x.length + 2
  | .list xs => 4 + zDs xs
  | .tuple xs => 4 + zDs xs
  | .dict _ => 0
def zDs : List PyData → Nat
  | [] => 0
  | x :: xs => zD x + 2 + zDs xs
end
theorem log_small45 {i : Int} (e : i.natAbs < 10 ^ 45) : i.natAbs.log2 < 1920 := by
  by_cases c : i.natAbs = 0
  · rw [c]; decide
  · have h1 : i.natAbs < 2 ^ 200 := Nat.lt_of_lt_of_le e (by decide)
    have := (Nat.log2_lt c).mpr h1
    omega
mutual
theorem gD_show : ∀ d : PyData, gD d = true → d.showable = true ∧ d.hasDict = false ∧ d.canLay0 = true
  | .none, _ => ⟨rfl, rfl, rfl⟩
  | .bool _, _ => ⟨rfl, rfl, rfl⟩
  | .int i, e => by
    simp only [gD, decide_eq_true_eq] at e
    exact ⟨by simp only [PyData.showable, decide_eq_true_eq]; exact log_small45 e, rfl, rfl⟩
  | .str x, e => ⟨rfl, rfl, by simp only [gD] at e; simpa [PyData.canLay0] using e⟩
  | .list xs, e => by
    simp only [gD] at e
    obtain ⟨h1, h2, h3⟩ := gDs_show xs e
    exact ⟨by simpa [PyData.showable] using h1, by simpa [PyData.hasDict] using h2, by simpa [PyData.canLay0] using h3⟩
  | .tuple xs, e => by
    simp only [gD] at e
    obtain ⟨h1, h2, h3⟩ := gDs_show xs e
    exact ⟨by simpa [PyData.showable] using h1, by simpa [PyData.hasDict] using h2, by simpa [PyData.canLay0] using h3⟩
  | .dict _, e => by simp [gD] at e
theorem gDs_show : ∀ ds : List PyData, gDs ds = true → PyData.showableAll ds = true ∧ PyData.hasDictAll ds = false ∧ PyData.canLayAll0 ds = true
  | [], _ => ⟨rfl, rfl, rfl⟩
  | d :: ds, e => by
    simp only [gDs, Bool.and_eq_true] at e
    obtain ⟨h1, h2, h3⟩ := gD_show d e.1
    obtain ⟨g1, g2, g3⟩ := gDs_show ds e.2
    exact ⟨by simp [PyData.showableAll, h1, g1], by simp [PyData.hasDictAll, h2, g2], by simp [PyData.canLayAll0, h3, g3]⟩
end
theorem text_le {x : Str} (e : PyData.strOk x = true) : (reprText x).length ≤ 10 * x.length + 2 := by
  refine StrLaws.reprText_len x fun c hc => ?_
  have h : (x.cps.all fun c => decide (c < 0x110000)) = true := e
  have := Array.all_eq_true'.mp h c (by simpa using hc)
  have := of_decide_eq_true this
  omega
mutual
theorem gD_len : ∀ d : PyData, gD d = true → d.shown.length ≤ zD d
  | .none, _ => by decide
  | .bool b, _ => by cases b <;> decide
  | .int i, e => by
    simp only [gD, decide_eq_true_eq] at e
    have := int_text_length_le10 (k := 45) (by decide) e
    rw [show (PyData.int i).shown = Str.ofString (toString i) from rfl, ofString_length]
    exact this
  | .str x, e => by simp only [gD] at e; exact text_le e
  | .list xs, e => by
    simp only [gD] at e
    have := gDs_len xs e
    have h2 := list_le (PyData.shownAll xs)
    simp only [PyData.shown, zD]
    omega
  | .tuple xs, e => by
    simp only [gD] at e
    have := gDs_len xs e
    have h2 := tuple_le (PyData.shownAll xs)
    simp only [PyData.shown, zD]
    omega
  | .dict _, e => by simp [gD] at e
theorem gDs_len : ∀ ds : List PyData, gDs ds = true → sums (PyData.shownAll ds) ≤ zDs ds
  | [], _ => by decide
  | d :: ds, e => by
    simp only [gDs, Bool.and_eq_true] at e
    have h1 := gD_len d e.1
    have h2 := gDs_len ds e.2
    simp only [sums, PyData.shownAll, List.map_cons, List.sum_cons, zDs] at h2 ⊢
    omega
end
theorem shp_d {d : PyData} (g : gD d = true) (dp : d.depth ≤ 60) : shp d = true := by
  simp only [shp, SeqAt.shaped, (gD_show d g).2.2, Bool.true_and, decide_eq_true_eq]
  omega
mutual
/-- the tree that a value is -/
def tP : PV → PyData
  | .non => .none
  | .bl b => .bool b
  | .int i => .int i
  | .str s => .str s
  | .tup xs => .tuple (tPs xs)
  | .lst xs => .list (tPs xs)
  | .fro xs => .list (tPs xs)
  | .dct _ => .none
  | .lck => .none
def tPs : List PV → List PyData
  | [] => []
  | x :: xs => tP x :: tPs xs
end
mutual
/-- plain: no dict, lists within lists at most n deep, ints of at most forty-five figures -/
def gP : PV → Nat → Bool
  | .non, _ => true
  | .bl _, _ => true
  | .int i, _ => decide (i.natAbs < 10 ^ 45)
  | .str x, _ => PyData.strOk x
  | .tup xs, n => gPs xs n
  | .lst xs, n => match n with
    | 0 => false
    | n + 1 => gPs xs n
  | .fro _, _ => false
  | .dct _, _ => false
  | .lck, _ => false
def gPs : List PV → Nat → Bool
  | [], _ => true
  | x :: xs, n => gP x n && gPs xs n
end
mutual
def zP : PV → Nat
  | .non => 5
  | .bl _ => 5
  | .int _ => 46
  | .str x => 10 * x.length + 2
  | .tup xs => 4 + zPs xs
  | .lst xs => 4 + zPs xs
  | .fro _ => 0
  | .dct _ => 0
  | .lck => 0
def zPs : List PV → Nat
  | [] => 0
  | x :: xs => zP x + 2 + zPs xs
end
mutual
def hP : PV → Nat
  | .tup xs => hPs xs + 1
  | .lst xs => hPs xs + 1
  | .non => 0
  | .bl _ => 0
  | .int _ => 0
  | .str _ => 0
  | .fro _ => 0
  | .dct _ => 0
  | .lck => 0
def hPs : List PV → Nat
  | [] => 0
  | x :: xs => max (hP x) (hPs xs)
end
mutual
theorem gP_tree : ∀ {v : PV} {n : Nat}, gP v n = true → dP v n = some (tP v) ∧ gD (tP v) = true ∧ zD (tP v) = zP v ∧ (tP v).depth = hP v
  | .non, _, _ => ⟨rfl, rfl, rfl, rfl⟩
  | .bl _, _, _ => ⟨rfl, rfl, rfl, rfl⟩
  | .int i, _, e => ⟨rfl, by simpa [tP, gD, gP] using e, rfl, rfl⟩
  | .str x, _, e => ⟨rfl, by simpa [tP, gD, gP] using e, rfl, rfl⟩
  | .tup xs, n, e => by
    simp only [gP] at e
    obtain ⟨a, b, c, d⟩ := gPs_tree e
    exact ⟨by simp only [dP, a, Option.map_some, tP], by simpa [tP, gD] using b, by simp only [tP, zD, zP, c], by simp only [tP, PyData.depth, hP, d]⟩
  | .lst xs, n, e => by
    cases n with
    | zero => simp [gP] at e
    | succ n =>
      simp only [gP] at e
      obtain ⟨a, b, c, d⟩ := gPs_tree e
      exact ⟨by simp only [dP, a, Option.map_some, tP], by simpa [tP, gD] using b, by simp only [tP, zD, zP, c], by simp only [tP, PyData.depth, hP, d]⟩
  | .fro _, _, e => by simp [gP] at e
  | .dct _, _, e => by simp [gP] at e
  | .lck, _, e => by simp [gP] at e
theorem gPs_tree : ∀ {v : List PV} {n : Nat}, gPs v n = true → dPs v n = some (tPs v) ∧ gDs (tPs v) = true ∧ zDs (tPs v) = zPs v ∧ PyData.depthAll (tPs v) = hPs v
  | [], _, _ => ⟨rfl, rfl, rfl, rfl⟩
  | x :: xs, n, e => by
    simp only [gPs, Bool.and_eq_true] at e
    obtain ⟨a, b, c, d⟩ := gP_tree e.1
    obtain ⟨a', b', c', d'⟩ := gPs_tree e.2
    exact ⟨by simp only [dPs, a, a', tPs], by simp [tPs, gDs, b, b'], by simp only [tPs, zDs, zPs, c, c'], by simp only [tPs, PyData.depthAll, hPs, d, d']⟩
end
/-- plain and of bounded text -/
def Pl (v : PV) (z : Nat) : Prop := gP v 5 = true ∧ hP v ≤ 50 ∧ zP v ≤ z
mutual
theorem gP_up : ∀ {v : PV} {n m : Nat}, gP v n = true → n ≤ m → gP v m = true
  | .non, _, _, _, _ => rfl
  | .bl _, _, _, _, _ => rfl
  | .int i, _, _, e, _ => by simpa [gP] using e
  | .str x, _, _, e, _ => by simpa [gP] using e
  | .tup xs, n, m, e, l => by simp only [gP] at e ⊢; exact gPs_up e l
  | .lst xs, n, m, e, l => by
    cases n with
    | zero => simp [gP] at e
    | succ n =>
      cases m with
      | zero => omega
      | succ m => simp only [gP] at e ⊢; exact gPs_up e (by omega)
  | .fro _, _, _, e, _ => by simp [gP] at e
  | .dct _, _, _, e, _ => by simp [gP] at e
  | .lck, _, _, e, _ => by simp [gP] at e
theorem gPs_up : ∀ {v : List PV} {n m : Nat}, gPs v n = true → n ≤ m → gPs v m = true
  | [], _, _, _, _ => rfl
  | x :: xs, n, m, e, l => by
    simp only [gPs, Bool.and_eq_true] at e ⊢
    exact ⟨gP_up e.1 l, gPs_up e.2 l⟩
end
theorem repr_p {v : PV} (g : gP v 6 = true) (h : hP v ≤ 60) (z : zP v ≤ lineM) : bltP .repr [v] = some (.val (.str (tP v).shown)) := by
  obtain ⟨a, b, c, d⟩ := gP_tree g
  obtain ⟨h1, h2, h3⟩ := gD_show _ b
  have h4 := gD_len _ b
  simp only [bltP, a, Option.bind_some, reprD]
  rw [if_pos ⟨h1, h2, by omega, by omega⟩]
  rfl
theorem repr_bl {b : Bool} : bltP .repr [.bl b] = some (.val (.str (tP (.bl b)).shown)) := repr_p rfl (by simp [hP]) (by simp [zP, lineM])
theorem eq_p {v w : PV} (g : gP v 6 = true) (h : hP v ≤ 60) (g' : gP w 6 = true) (h' : hP w ≤ 60) (ns : strOfP v = none ∨ strOfP w = none) : eqP v w = some (PyData.eqv (tP v) (tP w)) := by
  obtain ⟨a, b, c, d⟩ := gP_tree g
  obtain ⟨a', b', c', d'⟩ := gP_tree g'
  have e : eqDP v w = some (PyData.eqv (tP v) (tP w)) := by
    simp only [eqDP, a, a', shp_d b (by omega), shp_d b' (by omega), Bool.and_self, if_true]
  unfold eqP
  rcases ns with ns | ns
  · rw [ns]; exact e
  · rw [ns]; cases strOfP v <;> exact e
/-- plain, and not too deep for == and repr -/
def Gd (v : PV) : Prop := gP v 4 = true ∧ hP v ≤ 40
theorem gPs_mem {xs : List PV} {n : Nat} (h : gPs xs n = true) {v : PV} (hv : v ∈ xs) : gP v n = true := by
  induction xs with
  | nil => cases hv
  | cons x xs ih =>
    simp only [gPs, Bool.and_eq_true] at h
    rcases List.mem_cons.mp hv with rfl | q
    · exact h.1
    · exact ih h.2 q
theorem hPs_mem {xs : List PV} {n : Nat} (h : hPs xs ≤ n) {v : PV} (hv : v ∈ xs) : hP v ≤ n := by
  induction xs with
  | nil => cases hv
  | cons x xs ih =>
    simp only [hPs] at h
    rcases List.mem_cons.mp hv with rfl | q
    · omega
    · exact ih (by omega) q
theorem gPs_of {xs : List PV} {n : Nat} (h : ∀ v ∈ xs, gP v n = true) : gPs xs n = true := by
  induction xs with
  | nil => rfl
  | cons x xs ih => simp only [gPs, Bool.and_eq_true]; exact ⟨h x (List.mem_cons_self ..), ih fun v hv => h v (List.mem_cons_of_mem _ hv)⟩
theorem hPs_of {xs : List PV} {n : Nat} (h : ∀ v ∈ xs, hP v ≤ n) : hPs xs ≤ n := by
  induction xs with
  | nil => exact Nat.zero_le _
  | cons x xs ih =>
    have h1 := h x (List.mem_cons_self ..)
    have h2 := ih fun v hv => h v (List.mem_cons_of_mem _ hv)
    simp only [hPs]; omega
theorem Gd.tup {xs : List PV} (h : Gd (.tup xs)) : ∀ v ∈ xs, Gd v := fun v hv => by
  obtain ⟨h1, h2⟩ := h
  simp only [gP] at h1
  simp only [hP] at h2
  exact ⟨gPs_mem h1 hv, hPs_mem (by omega) hv⟩
theorem gP_plain {v : PV} {n : Nat} (h : gP v n = true) : plain v = true := by cases v <;> first | rfl | simp [gP] at h
theorem Gd.plain {v : PV} (h : Gd v) : Mn.plain v = true := gP_plain h.1
theorem Gd.lk {v : PV} (h : Gd v) : isLk v = false := plain_lk h.plain
theorem tPs_nil {xs : List PV} : tPs xs = [] ↔ xs = [] := by cases xs <;> simp [tPs]
theorem ne_nilG {xs : List PV} (h : ∀ v ∈ xs, Gd v) : cmpP .NotEq (.lst xs) (.lst []) = some (!xs.isEmpty) := by
  have g : gP (.lst xs) 6 = true := by simp only [gP]; exact gPs_of fun v hv => gP_up (h v hv).1 (by omega)
  have d : hP (.lst xs) ≤ 60 := by
    have := hPs_of (n := 40) fun v hv => (h v hv).2
    simp only [hP]; omega
  simp only [cmpP, eq_p g d (w := .lst []) rfl (by decide) (.inl rfl), Option.map_some, tP]
  cases xs with
  | nil => rfl
  | cons x xs => simp [tPs, PyData.eqv, PyData.eqvAll]
/-- the repr of a plain thing -/
theorem repr_g {v : PV} (h : Gd v) (z : zP v ≤ 1000000) : bltP .repr [v] = some (.val (.str (tP v).shown)) := repr_p (gP_up h.1 (by omega)) (by have := h.2; omega) z
theorem num_ok {i : Int} (h0 : 0 ≤ i) (h1 : i < 1000) : PyData.strOk (Str.ofString (toString i)) = true ∧ (Str.ofString (toString i)).length ≤ 4 := by
  obtain ⟨m, rfl⟩ := Int.eq_ofNat_of_zero_le h0
  refine ⟨?_, ?_⟩
  · unfold PyData.strOk
    rw [← Array.all_toList, PySem.W.KIN.signs_num]
    rw [List.all_eq_true]
    intro c hc
    obtain ⟨x, _, rfl⟩ := List.mem_map.mp hc
    have := x.valid
    simp only [decide_eq_true_eq]
    show x.val.toNat < 0x110000
    rcases this with z | z <;> omega
  · have := int_text_length_le10 (a := (m : Int)) (k := 3) (by decide) (by omega)
    rw [ofString_length]
    exact this
theorem gPs_app {n : Nat} : ∀ {a b : List PV}, gPs (a ++ b) n = (gPs a n && gPs b n)
  | [], b => by simp [gPs]
  | x :: a, b => by simp [gPs, gPs_app (a := a), Bool.and_assoc]
theorem hPs_app : ∀ {a b : List PV}, hPs (a ++ b) = max (hPs a) (hPs b)
  | [], b => by simp [hPs]
  | x :: a, b => by simp only [List.cons_append, hPs, hPs_app (a := a)]; omega
theorem zPs_app : ∀ {a b : List PV}, zPs (a ++ b) = zPs a + zPs b
  | [], b => by simp [zPs]
  | x :: a, b => by simp only [List.cons_append, zPs, zPs_app (a := a)]; omega
theorem zPs_rev : ∀ {a : List PV}, zPs a.reverse = zPs a
  | [] => rfl
  | x :: a => by simp only [List.reverse_cons, zPs_app, zPs_rev (a := a), zPs]; omega
theorem zPs_split {a : List PV} {k : Nat} : zPs (a.take k) + zPs (a.drop k) = zPs a := by rw [← zPs_app, List.take_append_drop]
theorem gPs_sub {n : Nat} {a b : List PV} (h : gPs a n = true) (s : ∀ v ∈ b, v ∈ a) : gPs b n = true := gPs_of fun v hv => gPs_mem h (s v hv)
theorem hPs_sub {n : Nat} {a b : List PV} (h : hPs a ≤ n) (s : ∀ v ∈ b, v ∈ a) : hPs b ≤ n := hPs_of fun v hv => hPs_mem h (s v hv)
theorem len_zPs : ∀ {a : List PV}, a.length ≤ zPs a
  | [] => Nat.le_refl _
  | x :: a => by have := len_zPs (a := a); simp only [List.length_cons, zPs]; omega
mutual
/-- tuples of tuples of small numbers -/
def sm : PV → Bool
  | .int i => decide (0 ≤ i) && decide (i < 1000)
  | .tup xs => sms xs
  | _ => false
def sms : List PV → Bool
  | [] => true
  | x :: xs => sm x && sms xs
end
theorem sms_mem {xs : List PV} (h : sms xs = true) {v : PV} (hv : v ∈ xs) : sm v = true := by
  induction xs with
  | nil => cases hv
  | cons x xs ih =>
    simp only [sms, Bool.and_eq_true] at h
    rcases List.mem_cons.mp hv with rfl | q
    · exact h.1
    · exact ih h.2 q
theorem sms_of {xs : List PV} (h : ∀ v ∈ xs, sm v = true) : sms xs = true := by
  induction xs with
  | nil => rfl
  | cons x xs ih => simp only [sms, Bool.and_eq_true]; exact ⟨h x (List.mem_cons_self ..), ih fun v hv => h v (List.mem_cons_of_mem _ hv)⟩
mutual
theorem sm_gP : ∀ {v : PV}, sm v = true → gP v 0 = true
  | .int i, h => by simp only [sm, Bool.and_eq_true, decide_eq_true_eq] at h; simp only [gP, decide_eq_true_eq]; omega
  | .tup xs, h => by simp only [sm] at h; simp only [gP]; exact sms_gP h
  | .non, h => by simp [sm] at h
  | .bl _, h => by simp [sm] at h
  | .str _, h => by simp [sm] at h
  | .lst _, h => by simp [sm] at h
  | .fro _, h => by simp [sm] at h
  | .dct _, h => by simp [sm] at h
  | .lck, h => by simp [sm] at h
theorem sms_gP : ∀ {v : List PV}, sms v = true → gPs v 0 = true
  | [], _ => rfl
  | x :: xs, h => by simp only [sms, Bool.and_eq_true] at h; simp only [gPs, Bool.and_eq_true]; exact ⟨sm_gP h.1, sms_gP h.2⟩
end
end Mn

set_option autoImplicit false
set_option maxHeartbeats 1000000
/-! GA: what the laws k01 to k18 share. -/
namespace Mn
namespace GA
open PySem L2
/-- 0 _law_script -/
def b_x_feed : List MS := [
  .ret (.lst [.slH (.var 0) (.c (.int 63)), .c (.int 0), .c (.int 0), .c (.int 0)])]
def p_x_feed : FP := ⟨1, 1, b_x_feed, [.sh], [.pl], true⟩
/-- 0 _law_feed_here, 1 _law_many, 2 _law_found, 3 _law_cell, 4 _law_mixed -/
def b_x_draw : List MS := [
  .asgSub (.var 0) (.c (.int 3)) (.bin .Add (.ix (.var 0) (.c (.int 3))) (.c (.int 1))),
  .ite (.cmp .Gt (.ix (.var 0) (.c (.int 2))) (.c (.int 0))) [
    .asg (.nm 2) (.bin .Mod (.ix (.var 0) (.c (.int 2))) (.var 1)),
    .asgSub (.var 0) (.c (.int 2)) (.bin .FloorDiv (.ix (.var 0) (.c (.int 2))) (.var 1)),
    .ret (.var 2)] [],
  .asg (.nm 3) (.c (.int 7)),
  .ite (.cmp .NotEq (.ix (.var 0) (.c (.int 0))) (.lst [])) [
    .asg (.nm 3) (.ix (.ix (.var 0) (.c (.int 0))) (.bin .Mod (.ix (.var 0) (.c (.int 1))) (.blt .len [.ix (.var 0) (.c (.int 0))])))] [],
  .asgSub (.var 0) (.c (.int 1)) (.bin .Add (.ix (.var 0) (.c (.int 1))) (.c (.int 1))),
  .ite (.and_ (.cmp .GtE (.var 3) (.bin .Pow (.c (.int 10)) (.c (.int 18)))) (.cmp .LtE (.ix (.var 0) (.c (.int 1))) (.blt .len [.ix (.var 0) (.c (.int 0))]))) [
    .asgSub (.var 0) (.c (.int 2)) (.bin .FloorDiv (.var 3) (.var 1)),
    .ret (.bin .Mod (.var 3) (.var 1))] [],
  .asg (.nm 4) (.bin .Mod (.bin .Mult (.bin .Add (.bin .Mod (.var 3) (.c (.int 1000000007))) (.bin .Mult (.c (.int 40503)) (.ix (.var 0) (.c (.int 3))))) (.c (.int 48271))) (.c (.int 2147483629))),
  .asg (.nm 4) (.bin .Mod (.bin .Mult (.bin .Add (.bin .FloorDiv (.var 4) (.c (.int 17))) (.bin .Mult (.bin .Mult (.c (.int 977)) (.ix (.var 0) (.c (.int 3)))) (.ix (.var 0) (.c (.int 3))))) (.c (.int 69621))) (.c (.int 2147483587))),
  .ret (.bin .Mod (.bin .FloorDiv (.var 4) (.c (.int 64))) (.var 1))]
def p_x_draw : FP := ⟨2, 5, b_x_draw, [.io, .sh, .sh, .sh, .sh], [.io, .pl], false⟩
/-- 0 _law_feed_here, 1 _law_signed, 2 _law_price_here -/
def b_x_price : List MS := [
  .asg (.nm 2) (.ix (.lst [.c (.int 1), .c (.int 2), .c (.int 3), .c (.int 0), .c (.int 5), .c (.int 1), .c (.int 99), .call "_law_draw" [.var 0, .c (.int 100)]]) (.call "_law_draw" [.var 0, .c (.int 8)])),
  .ret (.ife (.and_ (.var 1) (.cmp .Eq (.call "_law_draw" [.var 0, .c (.int 3)]) (.c (.int 0)))) (.neg (.var 2)) (.var 2))]
def p_x_price : FP := ⟨2, 3, b_x_price, [.io, .sh, .sh], [.io, .pl], false⟩
/-- 0 _law_feed_here, 1 _law_most, 2 _law_ties, 3 _law_signed, 4 _law_many, 5 _law_way, 6 _law_found, 7 _law_k, 8 _law_a, 9 _law_tie -/
def b_x_web : List MS := [
  .asg (.nm 4) (.bin .Add (.c (.int 1)) (.call "_law_draw" [.var 0, .var 1])),
  .asg (.nm 5) (.call "_law_draw" [.var 0, .c (.int 4)]),
  .asg (.nm 6) (.lst []),
  .ite (.cmp .Lt (.var 5) (.c (.int 2))) [
    .asg (.nm 6) (.lc (.tup [.var 7, .bin .Add (.var 7) (.c (.int 1)), .call "_law_price" [.var 0, .var 3]]) (.nm 7) .rng1 (.bin .Sub (.var 4) (.c (.int 1))) (.c .non) [] [7])] [],
  .ite (.and_ (.cmp .Eq (.var 5) (.c (.int 0))) (.cmp .Gt (.var 4) (.c (.int 1)))) [
    .expr (.meth .append (.var 6) [.tup [.c (.int 0), .bin .Sub (.var 4) (.c (.int 1)), .call "_law_price" [.var 0, .var 3]]])] [],
  .for_ (.nm 7) .rng1 (.bin .Mult (.call "_law_draw" [.var 0, .bin .Add (.var 2) (.c (.int 1))]) (.blt .int [.cmp .Gt (.var 4) (.c (.int 1))])) (.c .non) [
    .asg (.nm 8) (.call "_law_draw" [.var 0, .bin .Sub (.var 4) (.c (.int 1))]),
    .asg (.nm 9) (.tup [.var 8, .bin .Add (.bin .Add (.var 8) (.c (.int 1))) (.call "_law_draw" [.var 0, .bin .Sub (.bin .Sub (.var 4) (.c (.int 1))) (.var 8)]), .call "_law_price" [.var 0, .var 3]]),
    .ite (.and_ (.cmp .NotEq (.var 6) (.lst [])) (.cmp .Eq (.call "_law_draw" [.var 0, .c (.int 5)]) (.c (.int 0)))) [
      .asg (.nm 9) (.ix (.var 6) (.call "_law_draw" [.var 0, .blt .len [.var 6]]))] [],
    .expr (.meth .insert (.var 6) [.call "_law_draw" [.var 0, .bin .Add (.blt .len [.var 6]) (.c (.int 1))], .var 9])],
  .ret (.tup [.var 4, .blt .tuple [.slH (.var 6) (.var 2)]])]
def p_x_web : FP := ⟨4, 10, b_x_web, [.io, .sh, .sh, .sh, .sh, .sh, .ow, .sh, .sh, .sh], [.io, .pl, .pl, .pl], false⟩
/-- 0 _law_feed_here, 1 _law_ties, 2 _law_many, 3 _law_left, 4 _law_names, 5 _law_k, 6 _law_way, 7 _law_pairs, 8 _law_a, 9 _law_pair -/
def b_x_wide : List MS := [
  .asg (.nm 2) (.ix (.lst [.c (.int 60), .c (.int 10), .c (.int 11), .bin .Add (.c (.int 10)) (.call "_law_draw" [.var 0, .c (.int 51)])]) (.call "_law_draw" [.var 0, .c (.int 4)])),
  .asg (.nm 3) (.rngL (.c (.int 0)) (.var 2)),
  .asg (.nm 4) (.lc (.meth .pop (.var 3) [.call "_law_draw" [.var 0, .blt .len [.var 3]]]) (.nm 5) .rng1 (.var 2) (.c .non) [] [5]),
  .asg (.nm 6) (.call "_law_draw" [.var 0, .c (.int 3)]),
  .asg (.nm 7) (.lc (.tup [.ix (.var 4) (.bin .Sub (.var 5) (.c (.int 1))), .ix (.var 4) (.var 5)]) (.nm 5) .rng2 (.var 6) (.var 2) [] [5]),
  .ite (.cmp .Eq (.var 6) (.c (.int 2))) [
    .asg (.nm 7) (.lst []),
    .for_ (.nm 5) .rng1 (.call "_law_draw" [.var 0, .bin .Add (.var 1) (.c (.int 1))]) (.c .non) [
      .asg (.nm 8) (.call "_law_draw" [.var 0, .var 2]),
      .expr (.meth .append (.var 7) [.tup [.var 8, .bin .Mod (.bin .Add (.bin .Add (.var 8) (.c (.int 1))) (.call "_law_draw" [.var 0, .bin .Sub (.var 2) (.c (.int 1))])) (.var 2)]])]] [],
  .ret (.tup [.var 2, .blt .tuple [.lc (.tup [.blt .min [.var 9], .blt .max [.var 9], .call "_law_price" [.var 0, .c (.bl true)]]) (.nm 9) .val (.var 7) (.c .non) [] [9]]])]
def p_x_wide : FP := ⟨2, 10, b_x_wide, [.io, .sh, .sh, .ow, .sh, .sh, .sh, .ow, .sh, .sh], [.io, .pl], false⟩
/-- 0 _law_feed_here, 1 _law_many, 2 _law_way, 3 _law_k -/
def b_x_some : List MS := [
  .asg (.nm 2) (.call "_law_draw" [.var 0, .c (.int 6)]),
  .ite (.cmp .Lt (.var 2) (.c (.int 2))) [
    .ret (.rngT (.c (.int 0)) (.bin .Mult (.var 1) (.var 2)))] [],
  .ret (.blt .tuple [.lc (.var 3) (.nm 3) .rng1 (.var 1) (.c .non) [.cmp .Eq (.call "_law_draw" [.var 0, .var 2]) (.c (.int 0))] [3]])]
def p_x_some : FP := ⟨2, 4, b_x_some, [.io, .sh, .sh, .sh], [.io, .pl], false⟩
/-- 0 _law_thing, 1 _law_least, 2 _law_most -/
def b_x_whole : List MS := [
  .ret (.and_ (.isi (.var 0) .int) (.and_ (.not_ (.isi (.var 0) .bool)) (.chain .LtE .LtE (.var 1) (.var 0) (.var 2))))]
def p_x_whole : FP := ⟨3, 3, b_x_whole, [.sh, .sh, .sh], [.pl, .pl, .pl], false⟩
/-- 0 _law_many, 1 _law_thing, 2 _law_one, 3 _law_k -/
def b_x_rises : List MS := [
  .ite (.or_ (.not_ (.isi (.var 1) .tuple)) (.cmp .In (.c (.bl false)) (.lc (.call "_law_whole" [.var 2, .c (.int 0), .bin .Sub (.var 0) (.c (.int 1))]) (.nm 2) .val (.var 1) (.c .non) [] [2]))) [
    .ret (.c (.bl false))] [],
  .ret (.cmp .Eq (.lc (.var 3) (.nm 3) .rng2 (.c (.int 1)) (.blt .len [.var 1]) [.cmp .GtE (.ix (.var 1) (.bin .Sub (.var 3) (.c (.int 1)))) (.ix (.var 1) (.var 3))] [3]) (.lst []))]
def p_x_rises : FP := ⟨2, 4, b_x_rises, [.sh, .sh, .sh, .sh], [.pl, .pl], false⟩
/-- 0 _law_feed_here, 1 _law_some_here -/
def b_x_odd : List MS := [
  .asg (.nm 1) (.lst [.c .non, .c (.bl true), .c (.bl false), .c (.int 0), .c (.int 1), .c (.int 2), .neg (.c (.int 1)), .c (.int 60), .c (.int 61), .bin .Pow (.c (.int 10)) (.c (.int 39)), .c (.str ""), .c (.str "way"), .c (.str "-"), .tup [], .lst [], .tup [.c (.int 0)], .tup [.c (.int 0), .c (.int 1)], .lst [.c (.int 0), .c (.int 1)]]),
  .ret (.ix (.var 1) (.call "_law_draw" [.var 0, .c (.int 18)]))]
def p_x_odd : FP := ⟨1, 2, b_x_odd, [.io, .sh], [.io], false⟩
/-- 0 _law_feed_here, 1 _law_thing, 2 _law_at, 3 _law_way, 4 _law_some_here -/
def b_x_bent : List MS := [
  .ite (.and_ (.isi (.var 1) .tuple) (.and_ (.cmp .NotEq (.var 1) (.tup [])) (.cmp .Gt (.call "_law_draw" [.var 0, .c (.int 6)]) (.c (.int 0))))) [
    .asg (.nm 2) (.call "_law_draw" [.var 0, .blt .len [.var 1]]),
    .ret (.bin .Add (.bin .Add (.slH (.var 1) (.var 2)) (.tup [.call "_law_bent" [.var 0, .ix (.var 1) (.var 2)]])) (.slL (.var 1) (.bin .Add (.var 2) (.c (.int 1)))))] [],
  .asg (.nm 3) (.call "_law_draw" [.var 0, .c (.int 7)]),
  .ite (.and_ (.isi (.var 1) .tuple) (.cmp .Lt (.var 3) (.c (.int 5)))) [
    .asg (.nm 2) (.call "_law_draw" [.var 0, .bin .Add (.blt .len [.var 1]) (.c (.int 1))]),
    .asg (.nm 4) (.lst [.blt .list [.var 1], .bin .Add (.slH (.var 1) (.var 2)) (.slL (.var 1) (.bin .Add (.var 2) (.c (.int 1)))), .bin .Add (.slH (.var 1) (.bin .Add (.var 2) (.c (.int 1)))) (.slL (.var 1) (.var 2)), .rev (.var 1)]),
    .ret (.ix (.bin .Add (.var 4) (.lst [.bin .Add (.var 1) (.tup [.call "_law_odd" [.var 0]])])) (.var 3))] [],
  .ite (.and_ (.isi (.var 1) .int) (.and_ (.not_ (.isi (.var 1) .bool)) (.cmp .Lt (.var 3) (.c (.int 5))))) [
    .ret (.ix (.lst [.bin .Add (.var 1) (.c (.int 1)), .bin .Sub (.var 1) (.c (.int 1)), .neg (.var 1), .cmp .Eq (.var 1) (.c (.int 1)), .blt .str [.var 1]]) (.var 3))] [],
  .ret (.call "_law_odd" [.var 0])]
def p_x_bent : FP := ⟨2, 5, b_x_bent, [.io, .sh, .sh, .sh, .sh], [.io, .pl], false⟩
theorem fs1 {a b c d x : PV} : setV (.lst [a, b, c, d]) (.int 1) x = some (.lst [a, x, c, d]) := rfl
theorem fs2 {a b c d x : PV} : setV (.lst [a, b, c, d]) (.int 2) x = some (.lst [a, b, x, d]) := rfl
theorem fs3 {a b c d x : PV} : setV (.lst [a, b, c, d]) (.int 3) x = some (.lst [a, b, c, x]) := rfl
def fdA (cells : List Int) (a l t : Int) : PV := .lst [.lst (cells.map .int), .int a, .int l, .int t]
/-- the feed, at most T draws behind -/
def Fd (T : Nat) (v : PV) : Prop := ∃ cells a l t, v = fdA cells a l t ∧ 0 ≤ a ∧ 0 ≤ l ∧ 0 ≤ t ∧ t ≤ T ∧ cells.length ≤ 63
theorem Fd.lk {T : Nat} {v : PV} (h : Fd T v) : isLk v = false := by obtain ⟨_, _, _, _, rfl, _⟩ := h; rfl
theorem Fd.mono {T T' : Nat} {v : PV} (h : Fd T v) (l : T ≤ T') : Fd T' v := by
  obtain ⟨c, a, x, t, e, h1, h2, h3, h4, h5⟩ := h
  exact ⟨c, a, x, t, e, h1, h2, h3, by omega, h5⟩
abbrev line : Nat := 1000000000000
structure Draw (X : CQ) : Prop where
  sig : X.sig "_law_draw" = some ([.io, .pl], false)
  call : ∀ T v (n : Int), Fd T v → T < line → 1 ≤ n → n < 1073741824 → ∃ (r : Int) (v' : PV), X.call "_law_draw" [v, .int n] = .ok (.val (.int r)) [v', .int n] ∧ 0 ≤ r ∧ r < n ∧ Fd (T + 1) v'
theorem eq_ints {xs ys : List Int} : eqP (.lst (xs.map .int)) (.lst (ys.map .int)) = some (decide (xs = ys)) := by
  have t : ∀ zs : List Int, dPs (zs.map .int) 5 = some (zs.map .int) := by
    intro zs
    induction zs with
    | nil => rfl
    | cons z zs ih => simp only [List.map_cons, dPs, dP, ih]
  have l : ∀ zs : List Int, shp (.list (zs.map .int)) = true := by
    intro zs
    have : PyData.canLayAll0 (zs.map .int) = true ∧ PyData.depthAll (zs.map .int) = 0 := by
      induction zs with
      | nil => exact ⟨rfl, rfl⟩
      | cons z zs ih => simp [PyData.canLayAll0, PyData.canLay0, PyData.depthAll, PyData.depth, ih]
    simp [shp, SeqAt.shaped, PyData.canLay0, PyData.depth, this]
  have e : ∀ xs ys : List Int, PyData.eqvAll (xs.map .int) (ys.map .int) = decide (xs = ys) := by
    intro xs
    induction xs with
    | nil => intro ys; cases ys <;> simp [PyData.eqvAll]
    | cons x xs ih => intro ys; cases ys with
      | nil => simp [PyData.eqvAll]
      | cons y ys => simp only [List.map_cons, PyData.eqvAll, PyData.eqv, ih, List.cons.injEq]; rw [Bool.decide_and]; congr 1
  simp only [eqP, strOfP, eqDP, dP, t, Option.map_some, l, Bool.and_self, if_true, PyData.eqv, e]
theorem ne_nil {xs : List Int} : cmpP .NotEq (.lst (xs.map .int)) (.lst []) = some (!decide (xs = [])) := by
  have := eq_ints (xs := xs) (ys := [])
  simp only [List.map_nil] at this
  simp only [cmpP, this, Option.map_some]
theorem mixed {w : PV} {cells : List Int} {a t n c : Int} {T : Nat} (ha : 0 ≤ a) (ht : 0 ≤ t) (htT : t ≤ T + 1) (hT : T < line) (hc : cells.length ≤ 63) (h1 : 1 ≤ n) (h2 : n < 1073741824) {X : CQ} (hx : X.cl = clOf [.io, .sh, .sh, .sh, .sh]) :
    ∃ (r : Int) (v' : PV), finQ [.io, .pl] false [w, .int n] (evTs' X (b_x_draw.drop 4) [some (fdA cells a 0 t), some (.int n), none, some (.int c), none]) = .ok (.val (.int r)) [v', .int n] ∧ 0 ≤ r ∧ r < n ∧ Fd (T + 1) v' := by
  have dn : 0 < n ∧ n < 1073741824 := ⟨by omega, h2⟩
  have ok : ∀ {x y : Int}, 0 ≤ x → 0 ≤ y → Fd (T + 1) (fdA cells x y t) := fun hx hy => ⟨cells, _, _, _, rfl, hx, hy, ht, by omega, hc⟩
  have p10 : binP .Pow (.int 10) (.int 18) = some (.val (.int 1000000000000000000)) := bp_pow (by decide)
  have fin : ∀ {y : Int}, 0 ≤ y % n ∧ y % n < n := fun {y} => ⟨Int.emod_nonneg _ (by omega), Int.emod_lt_of_pos _ (by omega)⟩
  have d64 : (0 : Int) < 64 ∧ (64 : Int) < 1073741824 := by decide
  have d17 : (0 : Int) < 17 ∧ (17 : Int) < 1073741824 := by decide
  have m1 : ∀ x : Int, binP .Mult (.int 40503) (.int x) = some (.val (.int (40503 * x))) := fun x => bp_mul (.inl (by decide))
  have m2 : ∀ x : Int, binP .Mult (.int x) (.int 48271) = some (.val (.int (x * 48271))) := fun x => bp_mul (.inr (by decide))
  have m3 : ∀ x : Int, binP .Mult (.int 977) (.int x) = some (.val (.int (977 * x))) := fun x => bp_mul (.inl (by decide))
  have m5 : ∀ x : Int, binP .Mult (.int x) (.int t) = some (.val (.int (x * t))) := fun x => bp_mul (.inr (by simp only [line] at hT; omega))
  have m4 : ∀ x : Int, binP .Mult (.int x) (.int 69621) = some (.val (.int (x * 69621))) := fun x => bp_mul (.inr (by decide))
  have e1 : ∀ x : Int, binP .Mod (.int x) (.int 1000000007) = some (.val (.int (x % 1000000007))) := fun x => bp_mod (by decide)
  have e2 : ∀ x : Int, binP .Mod (.int x) (.int 2147483629) = some (.val (.int (x % 2147483629))) := fun x => bp_mod (by decide)
  have e3 : ∀ x : Int, binP .Mod (.int x) (.int 2147483587) = some (.val (.int (x % 2147483587))) := fun x => bp_mod (by decide)
  simp only [b_x_draw, List.drop_succ_cons, List.drop_zero, fdA] at ok ⊢
  by_cases c1 : (1000000000000000000 : Int) ≤ c
  · by_cases c2 : a + 1 ≤ (cells.length : Int)
    · simp -dsimp only [w_int, w_bl, w_str, w_non, w_var, w_glb, w_tup, w_lst, w_bin, w_neg, w_not, w_cmp, w_chain, w_and, w_or, w_ife, w_ix, w_sl, w_slL, w_slH, w_slB, w_rev, w_call, w_blt, w_meth, w_isi, w_dsp, w_rngL, w_rngT, lcSrc, w_lc, w_es0, w_es1, w_ts0, w_ts1, w_asg, subO, w_asgSub, w_expr, w_ret, w_retN, w_ite, w_for, w_whl, w_pass, w_brk, w_cont, w_ss0, w_ss1, th_nx, th_ret, th_brk, th_cont, ob_some, br_t, br_f, qb_ok, qb_assoc, rd_s, rd_non, rd_bl, rd_int, rd_str, rd_tup, rd_lst, rd_fro, rd_dct, lookO, looks, on1, on2, intO, force, forces, forceQ, asgF, asgO, asgP, asgPs, Opd.v, ld_non, ld_bl, ld_int, ld_str, ld_tup, ld_lst, ld_fro, ld_dct, lk_non, lk_bl, lk_int, lk_str, lk_tup, lk_lst, lk_fro, lk_dct, lk_lck, clOf, finQ_ret, finQ_nx, exitQ, outsP, callP, argsP, backP,  List.getElem?_cons_zero, List.getElem?_cons_succ, List.set_cons_zero, List.set_cons_succ, Option.getD_some, Option.map_some, Option.bind_some, reduceCtorEq, ↓reduceIte, if_true, if_false, noRef, noRefs, emb, embs, tr_bl, tr_int, tr_non, tr_tup, tr_lst, bp_add, bp_sub, cp_eqI, cp_neI, cp_eqS, cp_neS, cp_lt, cp_le, cp_gt, cp_ge, cp_in, cp_notin, cp_isN, cp_isnN, isNon, mx_int, mn_int, ln_tup, ln_lst, ln_fro, tu_lst, tu_tup, li_tup, li_lst, in_bl, in_int, ix_tup', ix_lst', at_0, at_1, at_2, at_3, canP, Bool.not_true, Bool.not_false, Bool.false_eq_true, Bool.true_and, Bool.and_true, Bool.and_self, decide_true, decide_false, methO, Me.reads, kd_str', kd_tup', kd_lst', kd_dct', or_true, true_or, or_false, false_or, and_true, true_and, and_self, ne_eq, not_false_eq_true, not_true_eq_false, eq_self,  srcP, lockO, unlockO, restP, Option.join_some, lc_some, lc_t, lc_f, fs_some, wipeP, List.length_cons, List.length_nil, Nat.reduceAdd, List.map_cons, List.map_nil, List.cons_append, List.nil_append, List.replicate, Nat.reduceSub, beq_self_eq_true, lcOk, MT.slots, MT.slotss, List.all_cons, List.all_nil, List.contains_cons, List.contains_nil, Bool.true_or, Bool.or_true, Bool.or_false, Bool.false_or, Nat.reduceBEq, rng_len, List.length_map, it_tup, it_lst, is_tup, is_int, is_bl, is_lst, is_str, is_non, rv_tup, hx, fs1, fs2, c1, c2, p10, bp_div dn, bp_mod dn.1]
      exact ⟨_, _, rfl, fin.1, fin.2, ok (by omega) (Int.ediv_nonneg (by omega) (by omega))⟩
    · simp -dsimp only [w_int, w_bl, w_str, w_non, w_var, w_glb, w_tup, w_lst, w_bin, w_neg, w_not, w_cmp, w_chain, w_and, w_or, w_ife, w_ix, w_sl, w_slL, w_slH, w_slB, w_rev, w_call, w_blt, w_meth, w_isi, w_dsp, w_rngL, w_rngT, lcSrc, w_lc, w_es0, w_es1, w_ts0, w_ts1, w_asg, subO, w_asgSub, w_expr, w_ret, w_retN, w_ite, w_for, w_whl, w_pass, w_brk, w_cont, w_ss0, w_ss1, th_nx, th_ret, th_brk, th_cont, ob_some, br_t, br_f, qb_ok, qb_assoc, rd_s, rd_non, rd_bl, rd_int, rd_str, rd_tup, rd_lst, rd_fro, rd_dct, lookO, looks, on1, on2, intO, force, forces, forceQ, asgF, asgO, asgP, asgPs, Opd.v, ld_non, ld_bl, ld_int, ld_str, ld_tup, ld_lst, ld_fro, ld_dct, lk_non, lk_bl, lk_int, lk_str, lk_tup, lk_lst, lk_fro, lk_dct, lk_lck, clOf, finQ_ret, finQ_nx, exitQ, outsP, callP, argsP, backP,  List.getElem?_cons_zero, List.getElem?_cons_succ, List.set_cons_zero, List.set_cons_succ, Option.getD_some, Option.map_some, Option.bind_some, reduceCtorEq, ↓reduceIte, if_true, if_false, noRef, noRefs, emb, embs, tr_bl, tr_int, tr_non, tr_tup, tr_lst, bp_add, bp_sub, cp_eqI, cp_neI, cp_eqS, cp_neS, cp_lt, cp_le, cp_gt, cp_ge, cp_in, cp_notin, cp_isN, cp_isnN, isNon, mx_int, mn_int, ln_tup, ln_lst, ln_fro, tu_lst, tu_tup, li_tup, li_lst, in_bl, in_int, ix_tup', ix_lst', at_0, at_1, at_2, at_3, canP, Bool.not_true, Bool.not_false, Bool.false_eq_true, Bool.true_and, Bool.and_true, Bool.and_self, decide_true, decide_false, methO, Me.reads, kd_str', kd_tup', kd_lst', kd_dct', or_true, true_or, or_false, false_or, and_true, true_and, and_self, ne_eq, not_false_eq_true, not_true_eq_false, eq_self,  srcP, lockO, unlockO, restP, Option.join_some, lc_some, lc_t, lc_f, fs_some, wipeP, List.length_cons, List.length_nil, Nat.reduceAdd, List.map_cons, List.map_nil, List.cons_append, List.nil_append, List.replicate, Nat.reduceSub, beq_self_eq_true, lcOk, MT.slots, MT.slotss, List.all_cons, List.all_nil, List.contains_cons, List.contains_nil, Bool.true_or, Bool.or_true, Bool.or_false, Bool.false_or, Nat.reduceBEq, rng_len, List.length_map, it_tup, it_lst, is_tup, is_int, is_bl, is_lst, is_str, is_non, rv_tup, hx, fs1, fs2, p10, c1, c2, m1, m2, m3, m4, m5, e1, e2, e3, bp_div d64, bp_div d17, bp_mod dn.1]
      exact ⟨_, _, rfl, fin.1, fin.2, ok (by omega) (by omega)⟩
  · simp -dsimp only [w_int, w_bl, w_str, w_non, w_var, w_glb, w_tup, w_lst, w_bin, w_neg, w_not, w_cmp, w_chain, w_and, w_or, w_ife, w_ix, w_sl, w_slL, w_slH, w_slB, w_rev, w_call, w_blt, w_meth, w_isi, w_dsp, w_rngL, w_rngT, lcSrc, w_lc, w_es0, w_es1, w_ts0, w_ts1, w_asg, subO, w_asgSub, w_expr, w_ret, w_retN, w_ite, w_for, w_whl, w_pass, w_brk, w_cont, w_ss0, w_ss1, th_nx, th_ret, th_brk, th_cont, ob_some, br_t, br_f, qb_ok, qb_assoc, rd_s, rd_non, rd_bl, rd_int, rd_str, rd_tup, rd_lst, rd_fro, rd_dct, lookO, looks, on1, on2, intO, force, forces, forceQ, asgF, asgO, asgP, asgPs, Opd.v, ld_non, ld_bl, ld_int, ld_str, ld_tup, ld_lst, ld_fro, ld_dct, lk_non, lk_bl, lk_int, lk_str, lk_tup, lk_lst, lk_fro, lk_dct, lk_lck, clOf, finQ_ret, finQ_nx, exitQ, outsP, callP, argsP, backP,  List.getElem?_cons_zero, List.getElem?_cons_succ, List.set_cons_zero, List.set_cons_succ, Option.getD_some, Option.map_some, Option.bind_some, reduceCtorEq, ↓reduceIte, if_true, if_false, noRef, noRefs, emb, embs, tr_bl, tr_int, tr_non, tr_tup, tr_lst, bp_add, bp_sub, cp_eqI, cp_neI, cp_eqS, cp_neS, cp_lt, cp_le, cp_gt, cp_ge, cp_in, cp_notin, cp_isN, cp_isnN, isNon, mx_int, mn_int, ln_tup, ln_lst, ln_fro, tu_lst, tu_tup, li_tup, li_lst, in_bl, in_int, ix_tup', ix_lst', at_0, at_1, at_2, at_3, canP, Bool.not_true, Bool.not_false, Bool.false_eq_true, Bool.true_and, Bool.and_true, Bool.and_self, decide_true, decide_false, methO, Me.reads, kd_str', kd_tup', kd_lst', kd_dct', or_true, true_or, or_false, false_or, and_true, true_and, and_self, ne_eq, not_false_eq_true, not_true_eq_false, eq_self,  srcP, lockO, unlockO, restP, Option.join_some, lc_some, lc_t, lc_f, fs_some, wipeP, List.length_cons, List.length_nil, Nat.reduceAdd, List.map_cons, List.map_nil, List.cons_append, List.nil_append, List.replicate, Nat.reduceSub, beq_self_eq_true, lcOk, MT.slots, MT.slotss, List.all_cons, List.all_nil, List.contains_cons, List.contains_nil, Bool.true_or, Bool.or_true, Bool.or_false, Bool.false_or, Nat.reduceBEq, rng_len, List.length_map, it_tup, it_lst, is_tup, is_int, is_bl, is_lst, is_str, is_non, rv_tup, hx, fs1, fs2, p10, c1, m1, m2, m3, m4, m5, e1, e2, e3, bp_div d64, bp_div d17, bp_mod dn.1]
    exact ⟨_, _, rfl, fin.1, fin.2, ok (by omega) (by omega)⟩
theorem draw_ok {Γ : Str → Option FP} {gl : Str → Option MV} {W d : Nat} {c : Nat → Cls} (g : Γ "_law_draw" = some p_x_draw) : Draw ⟨runP Γ gl W (d + 1), sigP Γ, c, gl, W⟩ := by
  refine ⟨sig_eq g, fun T v n hv hT h1 h2 => ?_⟩
  obtain ⟨cells, a, l, t, rfl, ha, hl, ht, htT, hc⟩ := hv
  have dn : 0 < n ∧ n < 1073741824 := ⟨by omega, h2⟩
  dsimp only
  rw [run_eq g rfl rfl]
  generalize hX : (⟨runP Γ gl W d, sigP Γ, clOf [.io, .sh, .sh, .sh, .sh], gl, W⟩ : CQ) = X
  have hx : X.cl = clOf [.io, .sh, .sh, .sh, .sh] := by rw [← hX]
  by_cases c0 : 0 < l
  · simp only [b_x_draw, fdA]
    simp -dsimp only [w_int, w_bl, w_str, w_non, w_var, w_glb, w_tup, w_lst, w_bin, w_neg, w_not, w_cmp, w_chain, w_and, w_or, w_ife, w_ix, w_sl, w_slL, w_slH, w_slB, w_rev, w_call, w_blt, w_meth, w_isi, w_dsp, w_rngL, w_rngT, lcSrc, w_lc, w_es0, w_es1, w_ts0, w_ts1, w_asg, subO, w_asgSub, w_expr, w_ret, w_retN, w_ite, w_for, w_whl, w_pass, w_brk, w_cont, w_ss0, w_ss1, th_nx, th_ret, th_brk, th_cont, ob_some, br_t, br_f, qb_ok, qb_assoc, rd_s, rd_non, rd_bl, rd_int, rd_str, rd_tup, rd_lst, rd_fro, rd_dct, lookO, looks, on1, on2, intO, force, forces, forceQ, asgF, asgO, asgP, asgPs, Opd.v, ld_non, ld_bl, ld_int, ld_str, ld_tup, ld_lst, ld_fro, ld_dct, lk_non, lk_bl, lk_int, lk_str, lk_tup, lk_lst, lk_fro, lk_dct, lk_lck, clOf, finQ_ret, finQ_nx, exitQ, outsP, callP, argsP, backP,  List.getElem?_cons_zero, List.getElem?_cons_succ, List.set_cons_zero, List.set_cons_succ, Option.getD_some, Option.map_some, Option.bind_some, reduceCtorEq, ↓reduceIte, if_true, if_false, noRef, noRefs, emb, embs, tr_bl, tr_int, tr_non, tr_tup, tr_lst, bp_add, bp_sub, cp_eqI, cp_neI, cp_eqS, cp_neS, cp_lt, cp_le, cp_gt, cp_ge, cp_in, cp_notin, cp_isN, cp_isnN, isNon, mx_int, mn_int, ln_tup, ln_lst, ln_fro, tu_lst, tu_tup, li_tup, li_lst, in_bl, in_int, ix_tup', ix_lst', at_0, at_1, at_2, at_3, canP, Bool.not_true, Bool.not_false, Bool.false_eq_true, Bool.true_and, Bool.and_true, Bool.and_self, decide_true, decide_false, methO, Me.reads, kd_str', kd_tup', kd_lst', kd_dct', or_true, true_or, or_false, false_or, and_true, true_and, and_self, ne_eq, not_false_eq_true, not_true_eq_false, eq_self,  srcP, lockO, unlockO, restP, Option.join_some, lc_some, lc_t, lc_f, fs_some, wipeP, List.length_cons, List.length_nil, Nat.reduceAdd, List.map_cons, List.map_nil, List.cons_append, List.nil_append, List.replicate, Nat.reduceSub, beq_self_eq_true, lcOk, MT.slots, MT.slotss, List.all_cons, List.all_nil, List.contains_cons, List.contains_nil, Bool.true_or, Bool.or_true, Bool.or_false, Bool.false_or, Nat.reduceBEq, rng_len, List.length_map, it_tup, it_lst, is_tup, is_int, is_bl, is_lst, is_str, is_non, rv_tup, hx, fs2, fs3, c0, bp_mod dn.1, bp_div dn]
    exact ⟨_, _, rfl, Int.emod_nonneg _ (by omega), Int.emod_lt_of_pos _ (by omega), ⟨cells, _, _, _, rfl, ha, Int.ediv_nonneg hl (by omega), by omega, by omega, hc⟩⟩
  · obtain rfl : l = 0 := by omega
    have first : ∃ c : Int, evTs' X (b_x_draw.take 4) [some (fdA cells a 0 t), some (.int n), none, none, none] = .ok .nx [some (fdA cells a 0 (t + 1)), some (.int n), none, some (.int c), none] := by
      simp only [b_x_draw, List.take_succ_cons, List.take_zero, fdA]
      by_cases ce : cells = []
      · simp -dsimp only [w_int, w_bl, w_str, w_non, w_var, w_glb, w_tup, w_lst, w_bin, w_neg, w_not, w_cmp, w_chain, w_and, w_or, w_ife, w_ix, w_sl, w_slL, w_slH, w_slB, w_rev, w_call, w_blt, w_meth, w_isi, w_dsp, w_rngL, w_rngT, lcSrc, w_lc, w_es0, w_es1, w_ts0, w_ts1, w_asg, subO, w_asgSub, w_expr, w_ret, w_retN, w_ite, w_for, w_whl, w_pass, w_brk, w_cont, w_ss0, w_ss1, th_nx, th_ret, th_brk, th_cont, ob_some, br_t, br_f, qb_ok, qb_assoc, rd_s, rd_non, rd_bl, rd_int, rd_str, rd_tup, rd_lst, rd_fro, rd_dct, lookO, looks, on1, on2, intO, force, forces, forceQ, asgF, asgO, asgP, asgPs, Opd.v, ld_non, ld_bl, ld_int, ld_str, ld_tup, ld_lst, ld_fro, ld_dct, lk_non, lk_bl, lk_int, lk_str, lk_tup, lk_lst, lk_fro, lk_dct, lk_lck, clOf, finQ_ret, finQ_nx, exitQ, outsP, callP, argsP, backP,  List.getElem?_cons_zero, List.getElem?_cons_succ, List.set_cons_zero, List.set_cons_succ, Option.getD_some, Option.map_some, Option.bind_some, reduceCtorEq, ↓reduceIte, if_true, if_false, noRef, noRefs, emb, embs, tr_bl, tr_int, tr_non, tr_tup, tr_lst, bp_add, bp_sub, cp_eqI, cp_neI, cp_eqS, cp_neS, cp_lt, cp_le, cp_gt, cp_ge, cp_in, cp_notin, cp_isN, cp_isnN, isNon, mx_int, mn_int, ln_tup, ln_lst, ln_fro, tu_lst, tu_tup, li_tup, li_lst, in_bl, in_int, ix_tup', ix_lst', at_0, at_1, at_2, at_3, canP, Bool.not_true, Bool.not_false, Bool.false_eq_true, Bool.true_and, Bool.and_true, Bool.and_self, decide_true, decide_false, methO, Me.reads, kd_str', kd_tup', kd_lst', kd_dct', or_true, true_or, or_false, false_or, and_true, true_and, and_self, ne_eq, not_false_eq_true, not_true_eq_false, eq_self,  srcP, lockO, unlockO, restP, Option.join_some, lc_some, lc_t, lc_f, fs_some, wipeP, List.length_cons, List.length_nil, Nat.reduceAdd, List.map_cons, List.map_nil, List.cons_append, List.nil_append, List.replicate, Nat.reduceSub, beq_self_eq_true, lcOk, MT.slots, MT.slotss, List.all_cons, List.all_nil, List.contains_cons, List.contains_nil, Bool.true_or, Bool.or_true, Bool.or_false, Bool.false_or, Nat.reduceBEq, rng_len, List.length_map, it_tup, it_lst, is_tup, is_int, is_bl, is_lst, is_str, is_non, rv_tup, hx, fs3, ne_nil, ce, Int.lt_irrefl]
        exact ⟨_, rfl⟩
      · have lp : 0 < cells.length := List.length_pos_iff.mpr ce
        have hm : (0 : Int) < (cells.length : Int) := by omega
        obtain ⟨k, hk, hk2⟩ : ∃ k : Nat, a % (cells.length : Int) = (k : Int) ∧ k < cells.length := by
          have h3 := Int.emod_nonneg a (b := (cells.length : Int)) (by omega)
          have h4 := Int.emod_lt_of_pos a hm
          exact ⟨(a % (cells.length : Int)).toNat, by omega, by omega⟩
        have at1 : atI (cells.map PV.int) (k : Int) = some (.int cells[k]) := by
          rw [at_nat, List.getElem?_map, List.getElem?_eq_getElem hk2]; rfl
        simp -dsimp only [w_int, w_bl, w_str, w_non, w_var, w_glb, w_tup, w_lst, w_bin, w_neg, w_not, w_cmp, w_chain, w_and, w_or, w_ife, w_ix, w_sl, w_slL, w_slH, w_slB, w_rev, w_call, w_blt, w_meth, w_isi, w_dsp, w_rngL, w_rngT, lcSrc, w_lc, w_es0, w_es1, w_ts0, w_ts1, w_asg, subO, w_asgSub, w_expr, w_ret, w_retN, w_ite, w_for, w_whl, w_pass, w_brk, w_cont, w_ss0, w_ss1, th_nx, th_ret, th_brk, th_cont, ob_some, br_t, br_f, qb_ok, qb_assoc, rd_s, rd_non, rd_bl, rd_int, rd_str, rd_tup, rd_lst, rd_fro, rd_dct, lookO, looks, on1, on2, intO, force, forces, forceQ, asgF, asgO, asgP, asgPs, Opd.v, ld_non, ld_bl, ld_int, ld_str, ld_tup, ld_lst, ld_fro, ld_dct, lk_non, lk_bl, lk_int, lk_str, lk_tup, lk_lst, lk_fro, lk_dct, lk_lck, clOf, finQ_ret, finQ_nx, exitQ, outsP, callP, argsP, backP,  List.getElem?_cons_zero, List.getElem?_cons_succ, List.set_cons_zero, List.set_cons_succ, Option.getD_some, Option.map_some, Option.bind_some, reduceCtorEq, ↓reduceIte, if_true, if_false, noRef, noRefs, emb, embs, tr_bl, tr_int, tr_non, tr_tup, tr_lst, bp_add, bp_sub, cp_eqI, cp_neI, cp_eqS, cp_neS, cp_lt, cp_le, cp_gt, cp_ge, cp_in, cp_notin, cp_isN, cp_isnN, isNon, mx_int, mn_int, ln_tup, ln_lst, ln_fro, tu_lst, tu_tup, li_tup, li_lst, in_bl, in_int, ix_tup', ix_lst', at_0, at_1, at_2, at_3, canP, Bool.not_true, Bool.not_false, Bool.false_eq_true, Bool.true_and, Bool.and_true, Bool.and_self, decide_true, decide_false, methO, Me.reads, kd_str', kd_tup', kd_lst', kd_dct', or_true, true_or, or_false, false_or, and_true, true_and, and_self, ne_eq, not_false_eq_true, not_true_eq_false, eq_self,  srcP, lockO, unlockO, restP, Option.join_some, lc_some, lc_t, lc_f, fs_some, wipeP, List.length_cons, List.length_nil, Nat.reduceAdd, List.map_cons, List.map_nil, List.cons_append, List.nil_append, List.replicate, Nat.reduceSub, beq_self_eq_true, lcOk, MT.slots, MT.slotss, List.all_cons, List.all_nil, List.contains_cons, List.contains_nil, Bool.true_or, Bool.or_true, Bool.or_false, Bool.false_or, Nat.reduceBEq, rng_len, List.length_map, it_tup, it_lst, is_tup, is_int, is_bl, is_lst, is_str, is_non, rv_tup, hx, fs3, ne_nil, ce, Int.lt_irrefl, bp_mod hm, hk, at1]
        exact ⟨_, rfl⟩
    obtain ⟨c, e⟩ := first
    rw [tk 4]
    simp only [List.map_cons, List.map_nil, List.replicate, List.cons_append, List.nil_append, e, qb_ok, th_nx]
    exact mixed ha (by omega) (by omega) hT hc h1 h2 hx
structure Feed (X : CQ) : Prop where
  sig : X.sig "_law_feed" = some ([.pl], true)
  call : ∀ ns : List Int, ∃ v, X.call "_law_feed" [.fro (ns.map .int)] = .ok (.own v) [.fro (ns.map .int)] ∧ Fd 0 v
theorem feed_ok {Γ : Str → Option FP} {gl : Str → Option MV} {W d : Nat} {c : Nat → Cls} (g : Γ "_law_feed" = some p_x_feed) : Feed ⟨runP Γ gl W (d + 1), sigP Γ, c, gl, W⟩ := by
  refine ⟨sig_eq g, fun ns => ⟨fdA (ns.take 63) 0 0 0, ?_, _, _, _, _, rfl, Int.le_refl _, Int.le_refl _, Int.le_refl _, by omega, by simp; omega⟩⟩
  dsimp only
  rw [run_eq g rfl rfl]
  simp only [b_x_feed]
  have s1 : slP (.fro (ns.map .int)) none (some 63) = some (.own (.lst ((ns.take 63).map .int))) := by
    have := cut_h (xs := ns.map PV.int) (k := 63)
    simp only [slP]
    rw [show (63 : Int) = ((63 : Nat) : Int) from rfl, this, List.map_take]
  simp -dsimp only [w_int, w_bl, w_str, w_non, w_var, w_glb, w_tup, w_lst, w_bin, w_neg, w_not, w_cmp, w_chain, w_and, w_or, w_ife, w_ix, w_sl, w_slL, w_slH, w_slB, w_rev, w_call, w_blt, w_meth, w_isi, w_dsp, w_rngL, w_rngT, lcSrc, w_lc, w_es0, w_es1, w_ts0, w_ts1, w_asg, subO, w_asgSub, w_expr, w_ret, w_retN, w_ite, w_for, w_whl, w_pass, w_brk, w_cont, w_ss0, w_ss1, th_nx, th_ret, th_brk, th_cont, ob_some, br_t, br_f, qb_ok, qb_assoc, rd_s, rd_non, rd_bl, rd_int, rd_str, rd_tup, rd_lst, rd_fro, rd_dct, lookO, looks, on1, on2, intO, force, forces, forceQ, asgF, asgO, asgP, asgPs, Opd.v, ld_non, ld_bl, ld_int, ld_str, ld_tup, ld_lst, ld_fro, ld_dct, lk_non, lk_bl, lk_int, lk_str, lk_tup, lk_lst, lk_fro, lk_dct, lk_lck, clOf, finQ_ret, finQ_nx, exitQ, outsP, callP, argsP, backP,  List.getElem?_cons_zero, List.getElem?_cons_succ, List.set_cons_zero, List.set_cons_succ, Option.getD_some, Option.map_some, Option.bind_some, reduceCtorEq, ↓reduceIte, if_true, if_false, noRef, noRefs, emb, embs, tr_bl, tr_int, tr_non, tr_tup, tr_lst, bp_add, bp_sub, cp_eqI, cp_neI, cp_eqS, cp_neS, cp_lt, cp_le, cp_gt, cp_ge, cp_in, cp_notin, cp_isN, cp_isnN, isNon, mx_int, mn_int, ln_tup, ln_lst, ln_fro, tu_lst, tu_tup, li_tup, li_lst, in_bl, in_int, ix_tup', ix_lst', at_0, at_1, at_2, at_3, canP, Bool.not_true, Bool.not_false, Bool.false_eq_true, Bool.true_and, Bool.and_true, Bool.and_self, decide_true, decide_false, methO, Me.reads, kd_str', kd_tup', kd_lst', kd_dct', or_true, true_or, or_false, false_or, and_true, true_and, and_self, ne_eq, not_false_eq_true, not_true_eq_false, eq_self,  srcP, lockO, unlockO, restP, Option.join_some, lc_some, lc_t, lc_f, fs_some, wipeP, List.length_cons, List.length_nil, Nat.reduceAdd, List.map_cons, List.map_nil, List.cons_append, List.nil_append, List.replicate, Nat.reduceSub, beq_self_eq_true, lcOk, MT.slots, MT.slotss, List.all_cons, List.all_nil, List.contains_cons, List.contains_nil, Bool.true_or, Bool.or_true, Bool.or_false, Bool.false_or, Nat.reduceBEq, rng_len, List.length_map, it_tup, it_lst, is_tup, is_int, is_bl, is_lst, is_str, is_non, rv_tup, s1]
  rfl
/-! prices -/
structure Price (X : CQ) : Prop where
  sig : X.sig "_law_price" = some ([.io, .pl], false)
  call : ∀ T v (b : Bool), Fd T v → T + 3 < line → ∃ (r : Int) (v' : PV), X.call "_law_price" [v, .bl b] = .ok (.val (.int r)) [v', .bl b] ∧ -100 < r ∧ r < 100 ∧ (b = false → 0 ≤ r) ∧ Fd (T + 3) v'
theorem price_ok {Γ : Str → Option FP} {gl : Str → Option MV} {W d : Nat} {c : Nat → Cls} (g : Γ "_law_price" = some p_x_price) (D : ∀ c, Draw ⟨runP Γ gl W d, sigP Γ, c, gl, W⟩) : Price ⟨runP Γ gl W (d + 1), sigP Γ, c, gl, W⟩ := by
  refine ⟨sig_eq g, fun T v b hv hT => ?_⟩
  dsimp only
  rw [run_eq g rfl rfl]
  generalize hX : (⟨runP Γ gl W d, sigP Γ, clOf [.io, .sh, .sh], gl, W⟩ : CQ) = X
  have hx : X.cl = clOf [.io, .sh, .sh] := by rw [← hX]
  have D : Draw X := by rw [← hX]; exact D _
  obtain ⟨r1, v1, e1, a1, b1, hv1⟩ := D.call T v 100 hv (by omega) (by decide) (by decide)
  obtain ⟨r2, v2, e2, a2, b2, hv2⟩ := D.call _ v1 8 hv1 (by omega) (by decide) (by decide)
  obtain ⟨q, hq, q0, q1⟩ : ∃ q : Int, atI [PV.int 1, PV.int 2, PV.int 3, PV.int 0, PV.int 5, PV.int 1, PV.int 99, PV.int r1] r2 = some (.int q) ∧ 0 ≤ q ∧ q < 100 := by
    obtain ⟨w, hw, ew⟩ := pick (l := [PV.int 1, PV.int 2, PV.int 3, PV.int 0, PV.int 5, PV.int 1, PV.int 99, PV.int r1]) a2 b2
    simp only [List.mem_cons, List.mem_nil_iff, or_false] at hw
    rcases hw with rfl | rfl | rfl | rfl | rfl | rfl | rfl | rfl
    all_goals exact ⟨_, ew, by omega, by omega⟩
  simp only [b_x_price]
  cases b with
  | false =>
    simp -dsimp only [w_int, w_bl, w_str, w_non, w_var, w_glb, w_tup, w_lst, w_bin, w_neg, w_not, w_cmp, w_chain, w_and, w_or, w_ife, w_ix, w_sl, w_slL, w_slH, w_slB, w_rev, w_call, w_blt, w_meth, w_isi, w_dsp, w_rngL, w_rngT, lcSrc, w_lc, w_es0, w_es1, w_ts0, w_ts1, w_asg, subO, w_asgSub, w_expr, w_ret, w_retN, w_ite, w_for, w_whl, w_pass, w_brk, w_cont, w_ss0, w_ss1, th_nx, th_ret, th_brk, th_cont, ob_some, br_t, br_f, qb_ok, qb_assoc, rd_s, rd_non, rd_bl, rd_int, rd_str, rd_tup, rd_lst, rd_fro, rd_dct, lookO, looks, on1, on2, intO, force, forces, forceQ, asgF, asgO, asgP, asgPs, Opd.v, ld_non, ld_bl, ld_int, ld_str, ld_tup, ld_lst, ld_fro, ld_dct, lk_non, lk_bl, lk_int, lk_str, lk_tup, lk_lst, lk_fro, lk_dct, lk_lck, clOf, finQ_ret, finQ_nx, exitQ, outsP, callP, argsP, backP,  List.getElem?_cons_zero, List.getElem?_cons_succ, List.set_cons_zero, List.set_cons_succ, Option.getD_some, Option.map_some, Option.bind_some, reduceCtorEq, ↓reduceIte, if_true, if_false, noRef, noRefs, emb, embs, tr_bl, tr_int, tr_non, tr_tup, tr_lst, bp_add, bp_sub, cp_eqI, cp_neI, cp_eqS, cp_neS, cp_lt, cp_le, cp_gt, cp_ge, cp_in, cp_notin, cp_isN, cp_isnN, isNon, mx_int, mn_int, ln_tup, ln_lst, ln_fro, tu_lst, tu_tup, li_tup, li_lst, in_bl, in_int, ix_tup', ix_lst', at_0, at_1, at_2, at_3, canP, Bool.not_true, Bool.not_false, Bool.false_eq_true, Bool.true_and, Bool.and_true, Bool.and_self, decide_true, decide_false, methO, Me.reads, kd_str', kd_tup', kd_lst', kd_dct', or_true, true_or, or_false, false_or, and_true, true_and, and_self, ne_eq, not_false_eq_true, not_true_eq_false, eq_self,  srcP, lockO, unlockO, restP, Option.join_some, lc_some, lc_t, lc_f, fs_some, wipeP, List.length_cons, List.length_nil, Nat.reduceAdd, List.map_cons, List.map_nil, List.cons_append, List.nil_append, List.replicate, Nat.reduceSub, beq_self_eq_true, lcOk, MT.slots, MT.slotss, List.all_cons, List.all_nil, List.contains_cons, List.contains_nil, Bool.true_or, Bool.or_true, Bool.or_false, Bool.false_or, Nat.reduceBEq, rng_len, List.length_map, it_tup, it_lst, is_tup, is_int, is_bl, is_lst, is_str, is_non, rv_tup, hx, D.sig, rd_any hv.lk, rd_any hv1.lk, rd_any hv2.lk, e1, e2, hq, hv2.lk]
    exact ⟨q, v2, rfl, by omega, by omega, fun _ => q0, hv2.mono (by omega)⟩
  | true =>
    obtain ⟨r3, v3, e3, a3, b3, hv3⟩ := D.call _ v2 3 hv2 (by omega) (by decide) (by decide)
    by_cases c : r3 = 0
    · subst c
      simp -dsimp only [w_int, w_bl, w_str, w_non, w_var, w_glb, w_tup, w_lst, w_bin, w_neg, w_not, w_cmp, w_chain, w_and, w_or, w_ife, w_ix, w_sl, w_slL, w_slH, w_slB, w_rev, w_call, w_blt, w_meth, w_isi, w_dsp, w_rngL, w_rngT, lcSrc, w_lc, w_es0, w_es1, w_ts0, w_ts1, w_asg, subO, w_asgSub, w_expr, w_ret, w_retN, w_ite, w_for, w_whl, w_pass, w_brk, w_cont, w_ss0, w_ss1, th_nx, th_ret, th_brk, th_cont, ob_some, br_t, br_f, qb_ok, qb_assoc, rd_s, rd_non, rd_bl, rd_int, rd_str, rd_tup, rd_lst, rd_fro, rd_dct, lookO, looks, on1, on2, intO, force, forces, forceQ, asgF, asgO, asgP, asgPs, Opd.v, ld_non, ld_bl, ld_int, ld_str, ld_tup, ld_lst, ld_fro, ld_dct, lk_non, lk_bl, lk_int, lk_str, lk_tup, lk_lst, lk_fro, lk_dct, lk_lck, clOf, finQ_ret, finQ_nx, exitQ, outsP, callP, argsP, backP,  List.getElem?_cons_zero, List.getElem?_cons_succ, List.set_cons_zero, List.set_cons_succ, Option.getD_some, Option.map_some, Option.bind_some, reduceCtorEq, ↓reduceIte, if_true, if_false, noRef, noRefs, emb, embs, tr_bl, tr_int, tr_non, tr_tup, tr_lst, bp_add, bp_sub, cp_eqI, cp_neI, cp_eqS, cp_neS, cp_lt, cp_le, cp_gt, cp_ge, cp_in, cp_notin, cp_isN, cp_isnN, isNon, mx_int, mn_int, ln_tup, ln_lst, ln_fro, tu_lst, tu_tup, li_tup, li_lst, in_bl, in_int, ix_tup', ix_lst', at_0, at_1, at_2, at_3, canP, Bool.not_true, Bool.not_false, Bool.false_eq_true, Bool.true_and, Bool.and_true, Bool.and_self, decide_true, decide_false, methO, Me.reads, kd_str', kd_tup', kd_lst', kd_dct', or_true, true_or, or_false, false_or, and_true, true_and, and_self, ne_eq, not_false_eq_true, not_true_eq_false, eq_self,  srcP, lockO, unlockO, restP, Option.join_some, lc_some, lc_t, lc_f, fs_some, wipeP, List.length_cons, List.length_nil, Nat.reduceAdd, List.map_cons, List.map_nil, List.cons_append, List.nil_append, List.replicate, Nat.reduceSub, beq_self_eq_true, lcOk, MT.slots, MT.slotss, List.all_cons, List.all_nil, List.contains_cons, List.contains_nil, Bool.true_or, Bool.or_true, Bool.or_false, Bool.false_or, Nat.reduceBEq, rng_len, List.length_map, it_tup, it_lst, is_tup, is_int, is_bl, is_lst, is_str, is_non, rv_tup, hx, D.sig, rd_any hv.lk, rd_any hv1.lk, rd_any hv2.lk, rd_any hv3.lk, e1, e2, e3, hq, hv3.lk]
      exact ⟨-q, v3, rfl, by omega, by omega, fun z => z.elim, hv3⟩
    · simp -dsimp only [w_int, w_bl, w_str, w_non, w_var, w_glb, w_tup, w_lst, w_bin, w_neg, w_not, w_cmp, w_chain, w_and, w_or, w_ife, w_ix, w_sl, w_slL, w_slH, w_slB, w_rev, w_call, w_blt, w_meth, w_isi, w_dsp, w_rngL, w_rngT, lcSrc, w_lc, w_es0, w_es1, w_ts0, w_ts1, w_asg, subO, w_asgSub, w_expr, w_ret, w_retN, w_ite, w_for, w_whl, w_pass, w_brk, w_cont, w_ss0, w_ss1, th_nx, th_ret, th_brk, th_cont, ob_some, br_t, br_f, qb_ok, qb_assoc, rd_s, rd_non, rd_bl, rd_int, rd_str, rd_tup, rd_lst, rd_fro, rd_dct, lookO, looks, on1, on2, intO, force, forces, forceQ, asgF, asgO, asgP, asgPs, Opd.v, ld_non, ld_bl, ld_int, ld_str, ld_tup, ld_lst, ld_fro, ld_dct, lk_non, lk_bl, lk_int, lk_str, lk_tup, lk_lst, lk_fro, lk_dct, lk_lck, clOf, finQ_ret, finQ_nx, exitQ, outsP, callP, argsP, backP,  List.getElem?_cons_zero, List.getElem?_cons_succ, List.set_cons_zero, List.set_cons_succ, Option.getD_some, Option.map_some, Option.bind_some, reduceCtorEq, ↓reduceIte, if_true, if_false, noRef, noRefs, emb, embs, tr_bl, tr_int, tr_non, tr_tup, tr_lst, bp_add, bp_sub, cp_eqI, cp_neI, cp_eqS, cp_neS, cp_lt, cp_le, cp_gt, cp_ge, cp_in, cp_notin, cp_isN, cp_isnN, isNon, mx_int, mn_int, ln_tup, ln_lst, ln_fro, tu_lst, tu_tup, li_tup, li_lst, in_bl, in_int, ix_tup', ix_lst', at_0, at_1, at_2, at_3, canP, Bool.not_true, Bool.not_false, Bool.false_eq_true, Bool.true_and, Bool.and_true, Bool.and_self, decide_true, decide_false, methO, Me.reads, kd_str', kd_tup', kd_lst', kd_dct', or_true, true_or, or_false, false_or, and_true, true_and, and_self, ne_eq, not_false_eq_true, not_true_eq_false, eq_self,  srcP, lockO, unlockO, restP, Option.join_some, lc_some, lc_t, lc_f, fs_some, wipeP, List.length_cons, List.length_nil, Nat.reduceAdd, List.map_cons, List.map_nil, List.cons_append, List.nil_append, List.replicate, Nat.reduceSub, beq_self_eq_true, lcOk, MT.slots, MT.slotss, List.all_cons, List.all_nil, List.contains_cons, List.contains_nil, Bool.true_or, Bool.or_true, Bool.or_false, Bool.false_or, Nat.reduceBEq, rng_len, List.length_map, it_tup, it_lst, is_tup, is_int, is_bl, is_lst, is_str, is_non, rv_tup, hx, D.sig, rd_any hv.lk, rd_any hv1.lk, rd_any hv2.lk, rd_any hv3.lk, e1, e2, e3, hq, hv3.lk, beq_eq_false_iff_ne.mpr c]
      exact ⟨q, v3, rfl, by omega, by omega, fun z => z.elim, hv3⟩
/-! webs -/
abbrev AT := Nat × Nat × Int
def tieV (t : AT) : PV := .tup [.int t.1, .int t.2.1, .int t.2.2]
def webV (n : Nat) (ts : List AT) : PV := .tup [.int n, .tup (ts.map tieV)]
def okA (b : Bool) (n : Nat) (t : AT) : Prop := t.1 < t.2.1 ∧ t.2.1 < n ∧ -100 < t.2.2 ∧ t.2.2 < 100 ∧ (b = false → 0 ≤ t.2.2)
theorem gd_tie {b : Bool} {n : Nat} (hn : n ≤ 1000000) {t : AT} (h : okA b n t) : Gd (tieV t) := by
  obtain ⟨h1, h2, h3, h4, _⟩ := h
  refine ⟨?_, by simp [tieV, hP, hPs]⟩
  simp only [tieV, gP, gPs, Bool.and_true, Bool.and_eq_true, decide_eq_true_eq]
  omega
theorem gd_ties {b : Bool} {n : Nat} (hn : n ≤ 1000000) {ts : List AT} (h : ∀ t ∈ ts, okA b n t) : ∀ v ∈ ts.map tieV, Gd v := fun v hv => by
  obtain ⟨t, ht, rfl⟩ := List.mem_map.mp hv
  exact gd_tie hn (h t ht)
theorem ins_at {xs : List PV} {k : Nat} {v : PV} (h : xs.length < 1000000) (h2 : k < 1000000) : methP .insert (.lst xs) [.int (k : Int), v] = some (.non, .lst (xs.take k ++ [v] ++ xs.drop k)) := by
  simp only [methP]
  rw [if_pos (by refine ⟨by simpa [lineM] using h, by omega, by omega⟩)]
  simp
structure WebS (X : CQ) : Prop where
  sig : X.sig "_law_web" = some ([.io, .pl, .pl, .pl], false)
  call : ∀ T v (p m : Nat) (b : Bool), Fd T v → T + 10000 < line → 1 ≤ p → p ≤ 100 → m ≤ 500 → ∃ (n : Nat) (ts : List AT) (v' : PV), X.call "_law_web" [v, .int p, .int m, .bl b] = .ok (.val (webV n ts)) [v', .int p, .int m, .bl b] ∧ 1 ≤ n ∧ n ≤ p ∧ ts.length ≤ m ∧ (∀ t ∈ ts, okA b n t) ∧ Fd (T + 10000) v'
def wcl : List Cls := [.io, .sh, .sh, .sh, .sh, .sh, .ow, .sh, .sh, .sh]
theorem web_4 {X : CQ} (hx : X.cl = clOf wcl) (P : Price X) {T : Nat} {v : PV} {p m : PV} {b : Bool} {n : Nat} {way : Int} (hv : Fd T v) (hT : T + 1000 < line) (hn : 1 ≤ n) (hn2 : n ≤ 100) :
    Evq (evTs' X (b_x_web.drop 3 |>.take 1) [some v, some p, some m, some (.bl b), some (.int n), some (.int way), some (.lst []), none, none, none]) fun fl σ => fl = .nx ∧ ∃ (ts : List AT) (u : PV), σ = [some u, some p, some m, some (.bl b), some (.int n), some (.int way), some (.lst (ts.map tieV)), none, none, none] ∧ Fd (T + 300) u ∧ ts.length ≤ n ∧ ∀ t ∈ ts, okA b n t := by
  simp only [b_x_web, List.drop_succ_cons, List.drop_zero, List.take_succ_cons, List.take_zero]
  by_cases c : way < 2
  · have en : (n : Int) - 1 = ((n - 1 : Nat) : Int) := by omega
    simp -dsimp only [w_int, w_bl, w_str, w_non, w_var, w_glb, w_tup, w_lst, w_bin, w_neg, w_not, w_cmp, w_chain, w_and, w_or, w_ife, w_ix, w_sl, w_slL, w_slH, w_slB, w_rev, w_call, w_blt, w_meth, w_isi, w_dsp, w_rngL, w_rngT, lcSrc, w_lc, w_es0, w_es1, w_ts0, w_ts1, w_asg, subO, w_asgSub, w_expr, w_ret, w_retN, w_ite, w_for, w_whl, w_pass, w_brk, w_cont, w_ss0, w_ss1, th_nx, th_ret, th_brk, th_cont, ob_some, br_t, br_f, qb_ok, qb_assoc, rd_s, rd_non, rd_bl, rd_int, rd_str, rd_tup, rd_lst, rd_fro, rd_dct, lookO, looks, on1, on2, intO, force, forces, forceQ, asgF, asgO, asgP, asgPs, Opd.v, ld_non, ld_bl, ld_int, ld_str, ld_tup, ld_lst, ld_fro, ld_dct, lk_non, lk_bl, lk_int, lk_str, lk_tup, lk_lst, lk_fro, lk_dct, lk_lck, clOf, finQ_ret, finQ_nx, exitQ, outsP, callP, argsP, backP,  List.getElem?_cons_zero, List.getElem?_cons_succ, List.set_cons_zero, List.set_cons_succ, Option.getD_some, Option.map_some, Option.bind_some, reduceCtorEq, ↓reduceIte, if_true, if_false, noRef, noRefs, emb, embs, tr_bl, tr_int, tr_non, tr_tup, tr_lst, bp_add, bp_sub, cp_eqI, cp_neI, cp_eqS, cp_neS, cp_lt, cp_le, cp_gt, cp_ge, cp_in, cp_notin, cp_isN, cp_isnN, isNon, mx_int, mn_int, ln_tup, ln_lst, ln_fro, tu_lst, tu_tup, li_tup, li_lst, in_bl, in_int, ix_tup', ix_lst', at_0, at_1, at_2, at_3, canP, Bool.not_true, Bool.not_false, Bool.false_eq_true, Bool.true_and, Bool.and_true, Bool.and_self, decide_true, decide_false, methO, Me.reads, kd_str', kd_tup', kd_lst', kd_dct', or_true, true_or, or_false, false_or, and_true, true_and, and_self, ne_eq, not_false_eq_true, not_true_eq_false, eq_self,  srcP, lockO, unlockO, restP, Option.join_some, lc_some, lc_t, lc_f, fs_some, wipeP, List.length_cons, List.length_nil, Nat.reduceAdd, List.map_cons, List.map_nil, List.cons_append, List.nil_append, List.replicate, Nat.reduceSub, beq_self_eq_true, lcOk, MT.slots, MT.slotss, List.all_cons, List.all_nil, List.contains_cons, List.contains_nil, Bool.true_or, Bool.or_true, Bool.or_false, Bool.false_or, Nat.reduceBEq, rng_len, List.length_map, it_tup, it_lst, is_tup, is_int, is_bl, is_lst, is_str, is_non, rv_tup, hx, wcl, c, en, it_rng' (show n - 1 ≤ 1000000 by omega), lm_le (show n - 1 ≤ 1000000 by omega)]
    refine .bnd (compD_inv (fun i zs σ => ∃ (ts : List AT) (u : PV), zs = ts.map tieV ∧ ts.length = i ∧ σ = [some u, some p, some m, some (.bl b), some (.int n), some (.int way), some (.lst []), none, none, none] ∧ Fd (T + 3 * i) u ∧ i ≤ n - 1 ∧ ∀ t ∈ ts, okA b n t) ⟨[], v, rfl, rfl, rfl, hv, by omega, by simp⟩ ?_ ?_)
    · rintro i w zs σ hi ⟨ts, u, rfl, hl, rfl, hu, hi0, ok⟩
      obtain ⟨rfl, hi2⟩ := rng_at hi
      obtain ⟨r, u', e, r1, r2, r3, hu'⟩ := P.call (T + 3 * i) u b hu (by omega)
      have z0 : (0 : Int) + (i : Int) = i := by omega
      simp -dsimp only [w_int, w_bl, w_str, w_non, w_var, w_glb, w_tup, w_lst, w_bin, w_neg, w_not, w_cmp, w_chain, w_and, w_or, w_ife, w_ix, w_sl, w_slL, w_slH, w_slB, w_rev, w_call, w_blt, w_meth, w_isi, w_dsp, w_rngL, w_rngT, lcSrc, w_lc, w_es0, w_es1, w_ts0, w_ts1, w_asg, subO, w_asgSub, w_expr, w_ret, w_retN, w_ite, w_for, w_whl, w_pass, w_brk, w_cont, w_ss0, w_ss1, th_nx, th_ret, th_brk, th_cont, ob_some, br_t, br_f, qb_ok, qb_assoc, rd_s, rd_non, rd_bl, rd_int, rd_str, rd_tup, rd_lst, rd_fro, rd_dct, lookO, looks, on1, on2, intO, force, forces, forceQ, asgF, asgO, asgP, asgPs, Opd.v, ld_non, ld_bl, ld_int, ld_str, ld_tup, ld_lst, ld_fro, ld_dct, lk_non, lk_bl, lk_int, lk_str, lk_tup, lk_lst, lk_fro, lk_dct, lk_lck, clOf, finQ_ret, finQ_nx, exitQ, outsP, callP, argsP, backP,  List.getElem?_cons_zero, List.getElem?_cons_succ, List.set_cons_zero, List.set_cons_succ, Option.getD_some, Option.map_some, Option.bind_some, reduceCtorEq, ↓reduceIte, if_true, if_false, noRef, noRefs, emb, embs, tr_bl, tr_int, tr_non, tr_tup, tr_lst, bp_add, bp_sub, cp_eqI, cp_neI, cp_eqS, cp_neS, cp_lt, cp_le, cp_gt, cp_ge, cp_in, cp_notin, cp_isN, cp_isnN, isNon, mx_int, mn_int, ln_tup, ln_lst, ln_fro, tu_lst, tu_tup, li_tup, li_lst, in_bl, in_int, ix_tup', ix_lst', at_0, at_1, at_2, at_3, canP, Bool.not_true, Bool.not_false, Bool.false_eq_true, Bool.true_and, Bool.and_true, Bool.and_self, decide_true, decide_false, methO, Me.reads, kd_str', kd_tup', kd_lst', kd_dct', or_true, true_or, or_false, false_or, and_true, true_and, and_self, ne_eq, not_false_eq_true, not_true_eq_false, eq_self,  srcP, lockO, unlockO, restP, Option.join_some, lc_some, lc_t, lc_f, fs_some, wipeP, List.length_cons, List.length_nil, Nat.reduceAdd, List.map_cons, List.map_nil, List.cons_append, List.nil_append, List.replicate, Nat.reduceSub, beq_self_eq_true, lcOk, MT.slots, MT.slotss, List.all_cons, List.all_nil, List.contains_cons, List.contains_nil, Bool.true_or, Bool.or_true, Bool.or_false, Bool.false_or, Nat.reduceBEq, rng_len, List.length_map, it_tup, it_lst, is_tup, is_int, is_bl, is_lst, is_str, is_non, rv_tup, hx, wcl, P.sig, rd_any hu.lk, rd_any hu'.lk, e, z0]
      refine .ok ⟨ts ++ [(i, i + 1, r)], u', by simp [tieV], by simp [hl], rfl, hu'.mono (by omega), by omega, fun t ht => ?_⟩
      rcases List.mem_append.mp ht with q | q
      · exact ok t q
      · simp at q; subst q; exact ⟨by dsimp only; omega, by dsimp only; omega, r1, r2, r3⟩
    · rintro zs σ ⟨ts, u, rfl, hl, rfl, hu, hi0, ok⟩
      rw [rng_len] at hl hu
      simp -dsimp only [w_int, w_bl, w_str, w_non, w_var, w_glb, w_tup, w_lst, w_bin, w_neg, w_not, w_cmp, w_chain, w_and, w_or, w_ife, w_ix, w_sl, w_slL, w_slH, w_slB, w_rev, w_call, w_blt, w_meth, w_isi, w_dsp, w_rngL, w_rngT, lcSrc, w_lc, w_es0, w_es1, w_ts0, w_ts1, w_asg, subO, w_asgSub, w_expr, w_ret, w_retN, w_ite, w_for, w_whl, w_pass, w_brk, w_cont, w_ss0, w_ss1, th_nx, th_ret, th_brk, th_cont, ob_some, br_t, br_f, qb_ok, qb_assoc, rd_s, rd_non, rd_bl, rd_int, rd_str, rd_tup, rd_lst, rd_fro, rd_dct, lookO, looks, on1, on2, intO, force, forces, forceQ, asgF, asgO, asgP, asgPs, Opd.v, ld_non, ld_bl, ld_int, ld_str, ld_tup, ld_lst, ld_fro, ld_dct, lk_non, lk_bl, lk_int, lk_str, lk_tup, lk_lst, lk_fro, lk_dct, lk_lck, clOf, finQ_ret, finQ_nx, exitQ, outsP, callP, argsP, backP,  List.getElem?_cons_zero, List.getElem?_cons_succ, List.set_cons_zero, List.set_cons_succ, Option.getD_some, Option.map_some, Option.bind_some, reduceCtorEq, ↓reduceIte, if_true, if_false, noRef, noRefs, emb, embs, tr_bl, tr_int, tr_non, tr_tup, tr_lst, bp_add, bp_sub, cp_eqI, cp_neI, cp_eqS, cp_neS, cp_lt, cp_le, cp_gt, cp_ge, cp_in, cp_notin, cp_isN, cp_isnN, isNon, mx_int, mn_int, ln_tup, ln_lst, ln_fro, tu_lst, tu_tup, li_tup, li_lst, in_bl, in_int, ix_tup', ix_lst', at_0, at_1, at_2, at_3, canP, Bool.not_true, Bool.not_false, Bool.false_eq_true, Bool.true_and, Bool.and_true, Bool.and_self, decide_true, decide_false, methO, Me.reads, kd_str', kd_tup', kd_lst', kd_dct', or_true, true_or, or_false, false_or, and_true, true_and, and_self, ne_eq, not_false_eq_true, not_true_eq_false, eq_self,  srcP, lockO, unlockO, restP, Option.join_some, lc_some, lc_t, lc_f, fs_some, wipeP, List.length_cons, List.length_nil, Nat.reduceAdd, List.map_cons, List.map_nil, List.cons_append, List.nil_append, List.replicate, Nat.reduceSub, beq_self_eq_true, lcOk, MT.slots, MT.slotss, List.all_cons, List.all_nil, List.contains_cons, List.contains_nil, Bool.true_or, Bool.or_true, Bool.or_false, Bool.false_or, Nat.reduceBEq, rng_len, List.length_map, it_tup, it_lst, is_tup, is_int, is_bl, is_lst, is_str, is_non, rv_tup, hx, wcl]
      exact .ok ⟨rfl, ts, u, rfl, hu.mono (by omega), by omega, ok⟩
  · simp -dsimp only [w_int, w_bl, w_str, w_non, w_var, w_glb, w_tup, w_lst, w_bin, w_neg, w_not, w_cmp, w_chain, w_and, w_or, w_ife, w_ix, w_sl, w_slL, w_slH, w_slB, w_rev, w_call, w_blt, w_meth, w_isi, w_dsp, w_rngL, w_rngT, lcSrc, w_lc, w_es0, w_es1, w_ts0, w_ts1, w_asg, subO, w_asgSub, w_expr, w_ret, w_retN, w_ite, w_for, w_whl, w_pass, w_brk, w_cont, w_ss0, w_ss1, th_nx, th_ret, th_brk, th_cont, ob_some, br_t, br_f, qb_ok, qb_assoc, rd_s, rd_non, rd_bl, rd_int, rd_str, rd_tup, rd_lst, rd_fro, rd_dct, lookO, looks, on1, on2, intO, force, forces, forceQ, asgF, asgO, asgP, asgPs, Opd.v, ld_non, ld_bl, ld_int, ld_str, ld_tup, ld_lst, ld_fro, ld_dct, lk_non, lk_bl, lk_int, lk_str, lk_tup, lk_lst, lk_fro, lk_dct, lk_lck, clOf, finQ_ret, finQ_nx, exitQ, outsP, callP, argsP, backP,  List.getElem?_cons_zero, List.getElem?_cons_succ, List.set_cons_zero, List.set_cons_succ, Option.getD_some, Option.map_some, Option.bind_some, reduceCtorEq, ↓reduceIte, if_true, if_false, noRef, noRefs, emb, embs, tr_bl, tr_int, tr_non, tr_tup, tr_lst, bp_add, bp_sub, cp_eqI, cp_neI, cp_eqS, cp_neS, cp_lt, cp_le, cp_gt, cp_ge, cp_in, cp_notin, cp_isN, cp_isnN, isNon, mx_int, mn_int, ln_tup, ln_lst, ln_fro, tu_lst, tu_tup, li_tup, li_lst, in_bl, in_int, ix_tup', ix_lst', at_0, at_1, at_2, at_3, canP, Bool.not_true, Bool.not_false, Bool.false_eq_true, Bool.true_and, Bool.and_true, Bool.and_self, decide_true, decide_false, methO, Me.reads, kd_str', kd_tup', kd_lst', kd_dct', or_true, true_or, or_false, false_or, and_true, true_and, and_self, ne_eq, not_false_eq_true, not_true_eq_false, eq_self,  srcP, lockO, unlockO, restP, Option.join_some, lc_some, lc_t, lc_f, fs_some, wipeP, List.length_cons, List.length_nil, Nat.reduceAdd, List.map_cons, List.map_nil, List.cons_append, List.nil_append, List.replicate, Nat.reduceSub, beq_self_eq_true, lcOk, MT.slots, MT.slotss, List.all_cons, List.all_nil, List.contains_cons, List.contains_nil, Bool.true_or, Bool.or_true, Bool.or_false, Bool.false_or, Nat.reduceBEq, rng_len, List.length_map, it_tup, it_lst, is_tup, is_int, is_bl, is_lst, is_str, is_non, rv_tup, hx, wcl, c]
    exact .ok ⟨rfl, [], v, rfl, hv.mono (by omega), by simp, by simp⟩
theorem web_5 {X : CQ} (hx : X.cl = clOf wcl) (P : Price X) {T : Nat} {v : PV} {p m : PV} {b : Bool} {n : Nat} {way : Int} {ts : List AT} (hv : Fd T v) (hT : T + 1000 < line) (hn : 1 ≤ n) (hn2 : n ≤ 100) (hl : ts.length ≤ n) (ok : ∀ t ∈ ts, okA b n t) :
    Evq (evTs' X (b_x_web.drop 4 |>.take 1) [some v, some p, some m, some (.bl b), some (.int n), some (.int way), some (.lst (ts.map tieV)), none, none, none]) fun fl σ => fl = .nx ∧ ∃ (ts : List AT) (u : PV), σ = [some u, some p, some m, some (.bl b), some (.int n), some (.int way), some (.lst (ts.map tieV)), none, none, none] ∧ Fd (T + 3) u ∧ ts.length ≤ n + 1 ∧ ∀ t ∈ ts, okA b n t := by
  simp only [b_x_web, List.drop_succ_cons, List.drop_zero, List.take_succ_cons, List.take_zero]
  by_cases c : way = 0
  · by_cases c1 : (1 : Int) < n
    · obtain ⟨r, u', e, r1, r2, r3, hu'⟩ := P.call T v b hv (by omega)
      have al : (ts.map tieV).length < 1000000 := by simp; omega
      simp -dsimp only [w_int, w_bl, w_str, w_non, w_var, w_glb, w_tup, w_lst, w_bin, w_neg, w_not, w_cmp, w_chain, w_and, w_or, w_ife, w_ix, w_sl, w_slL, w_slH, w_slB, w_rev, w_call, w_blt, w_meth, w_isi, w_dsp, w_rngL, w_rngT, lcSrc, w_lc, w_es0, w_es1, w_ts0, w_ts1, w_asg, subO, w_asgSub, w_expr, w_ret, w_retN, w_ite, w_for, w_whl, w_pass, w_brk, w_cont, w_ss0, w_ss1, th_nx, th_ret, th_brk, th_cont, ob_some, br_t, br_f, qb_ok, qb_assoc, rd_s, rd_non, rd_bl, rd_int, rd_str, rd_tup, rd_lst, rd_fro, rd_dct, lookO, looks, on1, on2, intO, force, forces, forceQ, asgF, asgO, asgP, asgPs, Opd.v, ld_non, ld_bl, ld_int, ld_str, ld_tup, ld_lst, ld_fro, ld_dct, lk_non, lk_bl, lk_int, lk_str, lk_tup, lk_lst, lk_fro, lk_dct, lk_lck, clOf, finQ_ret, finQ_nx, exitQ, outsP, callP, argsP, backP,  List.getElem?_cons_zero, List.getElem?_cons_succ, List.set_cons_zero, List.set_cons_succ, Option.getD_some, Option.map_some, Option.bind_some, reduceCtorEq, ↓reduceIte, if_true, if_false, noRef, noRefs, emb, embs, tr_bl, tr_int, tr_non, tr_tup, tr_lst, bp_add, bp_sub, cp_eqI, cp_neI, cp_eqS, cp_neS, cp_lt, cp_le, cp_gt, cp_ge, cp_in, cp_notin, cp_isN, cp_isnN, isNon, mx_int, mn_int, ln_tup, ln_lst, ln_fro, tu_lst, tu_tup, li_tup, li_lst, in_bl, in_int, ix_tup', ix_lst', at_0, at_1, at_2, at_3, canP, Bool.not_true, Bool.not_false, Bool.false_eq_true, Bool.true_and, Bool.and_true, Bool.and_self, decide_true, decide_false, methO, Me.reads, kd_str', kd_tup', kd_lst', kd_dct', or_true, true_or, or_false, false_or, and_true, true_and, and_self, ne_eq, not_false_eq_true, not_true_eq_false, eq_self,  srcP, lockO, unlockO, restP, Option.join_some, lc_some, lc_t, lc_f, fs_some, wipeP, List.length_cons, List.length_nil, Nat.reduceAdd, List.map_cons, List.map_nil, List.cons_append, List.nil_append, List.replicate, Nat.reduceSub, beq_self_eq_true, lcOk, MT.slots, MT.slotss, List.all_cons, List.all_nil, List.contains_cons, List.contains_nil, Bool.true_or, Bool.or_true, Bool.or_false, Bool.false_or, Nat.reduceBEq, rng_len, List.length_map, it_tup, it_lst, is_tup, is_int, is_bl, is_lst, is_str, is_non, rv_tup, hx, wcl, c, c1, P.sig, rd_any hv.lk, rd_any hu'.lk, e, app_at al]
      refine .ok ⟨rfl, ts ++ [(0, n - 1, r)], u', ?_, hu', by simp; omega, fun t ht => ?_⟩
      · simp [tieV]; omega
      · rcases List.mem_append.mp ht with q | q
        · exact ok t q
        · simp at q; subst q; exact ⟨by dsimp only; omega, by dsimp only; omega, r1, r2, r3⟩
    · simp -dsimp only [w_int, w_bl, w_str, w_non, w_var, w_glb, w_tup, w_lst, w_bin, w_neg, w_not, w_cmp, w_chain, w_and, w_or, w_ife, w_ix, w_sl, w_slL, w_slH, w_slB, w_rev, w_call, w_blt, w_meth, w_isi, w_dsp, w_rngL, w_rngT, lcSrc, w_lc, w_es0, w_es1, w_ts0, w_ts1, w_asg, subO, w_asgSub, w_expr, w_ret, w_retN, w_ite, w_for, w_whl, w_pass, w_brk, w_cont, w_ss0, w_ss1, th_nx, th_ret, th_brk, th_cont, ob_some, br_t, br_f, qb_ok, qb_assoc, rd_s, rd_non, rd_bl, rd_int, rd_str, rd_tup, rd_lst, rd_fro, rd_dct, lookO, looks, on1, on2, intO, force, forces, forceQ, asgF, asgO, asgP, asgPs, Opd.v, ld_non, ld_bl, ld_int, ld_str, ld_tup, ld_lst, ld_fro, ld_dct, lk_non, lk_bl, lk_int, lk_str, lk_tup, lk_lst, lk_fro, lk_dct, lk_lck, clOf, finQ_ret, finQ_nx, exitQ, outsP, callP, argsP, backP,  List.getElem?_cons_zero, List.getElem?_cons_succ, List.set_cons_zero, List.set_cons_succ, Option.getD_some, Option.map_some, Option.bind_some, reduceCtorEq, ↓reduceIte, if_true, if_false, noRef, noRefs, emb, embs, tr_bl, tr_int, tr_non, tr_tup, tr_lst, bp_add, bp_sub, cp_eqI, cp_neI, cp_eqS, cp_neS, cp_lt, cp_le, cp_gt, cp_ge, cp_in, cp_notin, cp_isN, cp_isnN, isNon, mx_int, mn_int, ln_tup, ln_lst, ln_fro, tu_lst, tu_tup, li_tup, li_lst, in_bl, in_int, ix_tup', ix_lst', at_0, at_1, at_2, at_3, canP, Bool.not_true, Bool.not_false, Bool.false_eq_true, Bool.true_and, Bool.and_true, Bool.and_self, decide_true, decide_false, methO, Me.reads, kd_str', kd_tup', kd_lst', kd_dct', or_true, true_or, or_false, false_or, and_true, true_and, and_self, ne_eq, not_false_eq_true, not_true_eq_false, eq_self,  srcP, lockO, unlockO, restP, Option.join_some, lc_some, lc_t, lc_f, fs_some, wipeP, List.length_cons, List.length_nil, Nat.reduceAdd, List.map_cons, List.map_nil, List.cons_append, List.nil_append, List.replicate, Nat.reduceSub, beq_self_eq_true, lcOk, MT.slots, MT.slotss, List.all_cons, List.all_nil, List.contains_cons, List.contains_nil, Bool.true_or, Bool.or_true, Bool.or_false, Bool.false_or, Nat.reduceBEq, rng_len, List.length_map, it_tup, it_lst, is_tup, is_int, is_bl, is_lst, is_str, is_non, rv_tup, hx, wcl, c, c1]
      exact .ok ⟨rfl, ts, v, rfl, hv.mono (by omega), by omega, ok⟩
  · simp -dsimp only [w_int, w_bl, w_str, w_non, w_var, w_glb, w_tup, w_lst, w_bin, w_neg, w_not, w_cmp, w_chain, w_and, w_or, w_ife, w_ix, w_sl, w_slL, w_slH, w_slB, w_rev, w_call, w_blt, w_meth, w_isi, w_dsp, w_rngL, w_rngT, lcSrc, w_lc, w_es0, w_es1, w_ts0, w_ts1, w_asg, subO, w_asgSub, w_expr, w_ret, w_retN, w_ite, w_for, w_whl, w_pass, w_brk, w_cont, w_ss0, w_ss1, th_nx, th_ret, th_brk, th_cont, ob_some, br_t, br_f, qb_ok, qb_assoc, rd_s, rd_non, rd_bl, rd_int, rd_str, rd_tup, rd_lst, rd_fro, rd_dct, lookO, looks, on1, on2, intO, force, forces, forceQ, asgF, asgO, asgP, asgPs, Opd.v, ld_non, ld_bl, ld_int, ld_str, ld_tup, ld_lst, ld_fro, ld_dct, lk_non, lk_bl, lk_int, lk_str, lk_tup, lk_lst, lk_fro, lk_dct, lk_lck, clOf, finQ_ret, finQ_nx, exitQ, outsP, callP, argsP, backP,  List.getElem?_cons_zero, List.getElem?_cons_succ, List.set_cons_zero, List.set_cons_succ, Option.getD_some, Option.map_some, Option.bind_some, reduceCtorEq, ↓reduceIte, if_true, if_false, noRef, noRefs, emb, embs, tr_bl, tr_int, tr_non, tr_tup, tr_lst, bp_add, bp_sub, cp_eqI, cp_neI, cp_eqS, cp_neS, cp_lt, cp_le, cp_gt, cp_ge, cp_in, cp_notin, cp_isN, cp_isnN, isNon, mx_int, mn_int, ln_tup, ln_lst, ln_fro, tu_lst, tu_tup, li_tup, li_lst, in_bl, in_int, ix_tup', ix_lst', at_0, at_1, at_2, at_3, canP, Bool.not_true, Bool.not_false, Bool.false_eq_true, Bool.true_and, Bool.and_true, Bool.and_self, decide_true, decide_false, methO, Me.reads, kd_str', kd_tup', kd_lst', kd_dct', or_true, true_or, or_false, false_or, and_true, true_and, and_self, ne_eq, not_false_eq_true, not_true_eq_false, eq_self,  srcP, lockO, unlockO, restP, Option.join_some, lc_some, lc_t, lc_f, fs_some, wipeP, List.length_cons, List.length_nil, Nat.reduceAdd, List.map_cons, List.map_nil, List.cons_append, List.nil_append, List.replicate, Nat.reduceSub, beq_self_eq_true, lcOk, MT.slots, MT.slotss, List.all_cons, List.all_nil, List.contains_cons, List.contains_nil, Bool.true_or, Bool.or_true, Bool.or_false, Bool.false_or, Nat.reduceBEq, rng_len, List.length_map, it_tup, it_lst, is_tup, is_int, is_bl, is_lst, is_str, is_non, rv_tup, hx, wcl, beq_eq_false_iff_ne.mpr c]
    exact .ok ⟨rfl, ts, v, rfl, hv.mono (by omega), by omega, ok⟩
theorem web_6 {X : CQ} (hx : X.cl = clOf wcl) (D : Draw X) (P : Price X) {T : Nat} {v : PV} {p : PV} {m : Nat} {b : Bool} {n : Nat} {way : Int} {ts0 : List AT} (hv : Fd T v) (hT : T + 9000 < line) (hn : 1 ≤ n) (hn2 : n ≤ 100) (hm : m ≤ 500) (hl0 : ts0.length ≤ n + 1) (ok0 : ∀ t ∈ ts0, okA b n t) :
    Evq (evTs' X (b_x_web.drop 5 |>.take 1) [some v, some p, some (.int m), some (.bl b), some (.int n), some (.int way), some (.lst (ts0.map tieV)), none, none, none]) fun fl σ => fl = .nx ∧ ∃ (ts : List AT) (u : PV) (x7 x8 x9 : Option PV), σ = [some u, some p, some (.int m), some (.bl b), some (.int n), some (.int way), some (.lst (ts.map tieV)), x7, x8, x9] ∧ Fd (T + 1 + 8 * m) u ∧ ts.length ≤ 1000 ∧ ∀ t ∈ ts, okA b n t := by
  simp only [b_x_web, List.drop_succ_cons, List.drop_zero, List.take_succ_cons, List.take_zero]
  obtain ⟨r, u, e, r0, r1, hu⟩ := D.call T v ((m : Int) + 1) hv (by omega) (by omega) (by omega)
  generalize hk : r * (if decide ((1 : Int) < n) = true then 1 else 0) = k
  have k0 : 0 ≤ k ∧ k ≤ m ∧ (0 < k → 1 < n) := by subst hk; split <;> rename_i z <;> simp at z <;> omega
  obtain ⟨k, rfl⟩ : ∃ j : Nat, k = (j : Int) := ⟨k.toNat, by omega⟩
  have bm : binP .Mult (.int r) (.int (if decide ((1 : Int) < n) = true then 1 else 0)) = some (.val (.int (k : Nat))) := by rw [← hk]; exact bp_mul (.inr (by split <;> decide))
  simp -dsimp only [w_int, w_bl, w_str, w_non, w_var, w_glb, w_tup, w_lst, w_bin, w_neg, w_not, w_cmp, w_chain, w_and, w_or, w_ife, w_ix, w_sl, w_slL, w_slH, w_slB, w_rev, w_call, w_blt, w_meth, w_isi, w_dsp, w_rngL, w_rngT, lcSrc, w_lc, w_es0, w_es1, w_ts0, w_ts1, w_asg, subO, w_asgSub, w_expr, w_ret, w_retN, w_ite, w_for, w_whl, w_pass, w_brk, w_cont, w_ss0, w_ss1, th_nx, th_ret, th_brk, th_cont, ob_some, br_t, br_f, qb_ok, qb_assoc, rd_s, rd_non, rd_bl, rd_int, rd_str, rd_tup, rd_lst, rd_fro, rd_dct, lookO, looks, on1, on2, intO, force, forces, forceQ, asgF, asgO, asgP, asgPs, Opd.v, ld_non, ld_bl, ld_int, ld_str, ld_tup, ld_lst, ld_fro, ld_dct, lk_non, lk_bl, lk_int, lk_str, lk_tup, lk_lst, lk_fro, lk_dct, lk_lck, clOf, finQ_ret, finQ_nx, exitQ, outsP, callP, argsP, backP,  List.getElem?_cons_zero, List.getElem?_cons_succ, List.set_cons_zero, List.set_cons_succ, Option.getD_some, Option.map_some, Option.bind_some, reduceCtorEq, ↓reduceIte, if_true, if_false, noRef, noRefs, emb, embs, tr_bl, tr_int, tr_non, tr_tup, tr_lst, bp_add, bp_sub, cp_eqI, cp_neI, cp_eqS, cp_neS, cp_lt, cp_le, cp_gt, cp_ge, cp_in, cp_notin, cp_isN, cp_isnN, isNon, mx_int, mn_int, ln_tup, ln_lst, ln_fro, tu_lst, tu_tup, li_tup, li_lst, in_bl, in_int, ix_tup', ix_lst', at_0, at_1, at_2, at_3, canP, Bool.not_true, Bool.not_false, Bool.false_eq_true, Bool.true_and, Bool.and_true, Bool.and_self, decide_true, decide_false, methO, Me.reads, kd_str', kd_tup', kd_lst', kd_dct', or_true, true_or, or_false, false_or, and_true, true_and, and_self, ne_eq, not_false_eq_true, not_true_eq_false, eq_self,  srcP, lockO, unlockO, restP, Option.join_some, lc_some, lc_t, lc_f, fs_some, wipeP, List.length_cons, List.length_nil, Nat.reduceAdd, List.map_cons, List.map_nil, List.cons_append, List.nil_append, List.replicate, Nat.reduceSub, beq_self_eq_true, lcOk, MT.slots, MT.slotss, List.all_cons, List.all_nil, List.contains_cons, List.contains_nil, Bool.true_or, Bool.or_true, Bool.or_false, Bool.false_or, Nat.reduceBEq, rng_len, List.length_map, it_tup, it_lst, is_tup, is_int, is_bl, is_lst, is_str, is_non, rv_tup, hx, wcl, D.sig, rd_any hv.lk, rd_any hu.lk, e, bm, it_rng' (show k ≤ 1000000 by omega)]
  refine .bnd ((forD_inv (fun i σ => ∃ (ts : List AT) (w : PV) (x7 x8 x9 : Option PV), σ = [some w, some p, some (.int m), some (.bl b), some (.int n), some (.int way), some (.lst (ts.map tieV)), x7, x8, x9] ∧ Fd (T + 1 + 8 * i) w ∧ i ≤ k ∧ ts.length = ts0.length + i ∧ ∀ t ∈ ts, okA b n t)
    ⟨ts0, u, none, none, none, rfl, hu, by omega, rfl, ok0⟩ ?_).imp ?_)
  · rintro i w σ hi ⟨ts, w, x7, x8, x9, rfl, hw, hik, hl, ok⟩
    obtain ⟨rfl, hi2⟩ := rng_at hi
    have n1 : 1 < n := by omega
    obtain ⟨r1, w1, e1, a1, b1, hw1⟩ := D.call _ w ((n : Int) - 1) hw (by omega) (by omega) (by omega)
    obtain ⟨r2, w2, e2, a2, b2, hw2⟩ := D.call _ w1 ((n : Int) - 1 - r1) hw1 (by omega) (by omega) (by omega)
    obtain ⟨r3, w3, e3, a3, b3, c3, hw3⟩ := P.call _ w2 b hw2 (by omega)
    have hN : okA b n (r1.toNat, (r1 + 1 + r2).toNat, r3) := ⟨by dsimp only; omega, by dsimp only; omega, a3, b3, c3⟩
    have eN : PV.tup [.int r1, .int (r1 + 1 + r2), .int r3] = tieV (r1.toNat, (r1 + 1 + r2).toNat, r3) := by simp [tieV]; omega
    generalize (r1.toNat, (r1 + 1 + r2).toNat, r3) = N at hN eN
    have gL := gd_ties (by omega) ok
    have enn := ne_nilG gL
    have tl : (ts.map tieV).length < 1000000 := by simp; omega
    have lt : ∀ t : AT, isLk (tieV t) = false := fun _ => rfl
    -- where the tie is put
    have fin : ∀ (M : AT) (T' : Nat) (u : PV), okA b n M → Fd T' u → T' ≤ T + 1 + 8 * i + 7 → Evq (evTs' X [.expr (.meth .insert (.var 6) [.call "_law_draw" [.var 0, .bin .Add (.blt .len [.var 6]) (.c (.int 1))], .var 9])] [some u, some p, some (.int m), some (.bl b), some (.int n), some (.int way), some (.lst (ts.map tieV)), some (.int (0 + i)), some (.int r1), some (tieV M)]) fun fl σ' => (fl = .nx ∨ fl = .cont) ∧ ∃ (ts : List AT) (w : PV) (x7 x8 x9 : Option PV), σ' = [some w, some p, some (.int m), some (.bl b), some (.int n), some (.int way), some (.lst (ts.map tieV)), x7, x8, x9] ∧ Fd (T + 1 + 8 * (i + 1)) w ∧ i + 1 ≤ k ∧ ts.length = ts0.length + (i + 1) ∧ ∀ t ∈ ts, okA b n t := by
      intro M T' u hM hu hT'
      obtain ⟨r5, w5, e5, a5, b5, hw5⟩ := D.call _ u ((ts.length : Int) + 1) hu (by omega) (by omega) (by omega)
      obtain ⟨j, rfl⟩ : ∃ j : Nat, r5 = (j : Int) := ⟨r5.toNat, by omega⟩
      simp -dsimp only [w_int, w_bl, w_str, w_non, w_var, w_glb, w_tup, w_lst, w_bin, w_neg, w_not, w_cmp, w_chain, w_and, w_or, w_ife, w_ix, w_sl, w_slL, w_slH, w_slB, w_rev, w_call, w_blt, w_meth, w_isi, w_dsp, w_rngL, w_rngT, lcSrc, w_lc, w_es0, w_es1, w_ts0, w_ts1, w_asg, subO, w_asgSub, w_expr, w_ret, w_retN, w_ite, w_for, w_whl, w_pass, w_brk, w_cont, w_ss0, w_ss1, th_nx, th_ret, th_brk, th_cont, ob_some, br_t, br_f, qb_ok, qb_assoc, rd_s, rd_non, rd_bl, rd_int, rd_str, rd_tup, rd_lst, rd_fro, rd_dct, lookO, looks, on1, on2, intO, force, forces, forceQ, asgF, asgO, asgP, asgPs, Opd.v, ld_non, ld_bl, ld_int, ld_str, ld_tup, ld_lst, ld_fro, ld_dct, lk_non, lk_bl, lk_int, lk_str, lk_tup, lk_lst, lk_fro, lk_dct, lk_lck, clOf, finQ_ret, finQ_nx, exitQ, outsP, callP, argsP, backP,  List.getElem?_cons_zero, List.getElem?_cons_succ, List.set_cons_zero, List.set_cons_succ, Option.getD_some, Option.map_some, Option.bind_some, reduceCtorEq, ↓reduceIte, if_true, if_false, noRef, noRefs, emb, embs, tr_bl, tr_int, tr_non, tr_tup, tr_lst, bp_add, bp_sub, cp_eqI, cp_neI, cp_eqS, cp_neS, cp_lt, cp_le, cp_gt, cp_ge, cp_in, cp_notin, cp_isN, cp_isnN, isNon, mx_int, mn_int, ln_tup, ln_lst, ln_fro, tu_lst, tu_tup, li_tup, li_lst, in_bl, in_int, ix_tup', ix_lst', at_0, at_1, at_2, at_3, canP, Bool.not_true, Bool.not_false, Bool.false_eq_true, Bool.true_and, Bool.and_true, Bool.and_self, decide_true, decide_false, methO, Me.reads, kd_str', kd_tup', kd_lst', kd_dct', or_true, true_or, or_false, false_or, and_true, true_and, and_self, ne_eq, not_false_eq_true, not_true_eq_false, eq_self,  srcP, lockO, unlockO, restP, Option.join_some, lc_some, lc_t, lc_f, fs_some, wipeP, List.length_cons, List.length_nil, Nat.reduceAdd, List.map_cons, List.map_nil, List.cons_append, List.nil_append, List.replicate, Nat.reduceSub, beq_self_eq_true, lcOk, MT.slots, MT.slotss, List.all_cons, List.all_nil, List.contains_cons, List.contains_nil, Bool.true_or, Bool.or_true, Bool.or_false, Bool.false_or, Nat.reduceBEq, rng_len, List.length_map, it_tup, it_lst, is_tup, is_int, is_bl, is_lst, is_str, is_non, rv_tup, hx, wcl, D.sig, rd_any hu.lk, rd_any hw5.lk, rd_any (lt M), e5, ins_at tl (show j < 1000000 by omega)]
      refine .ok ⟨.inl rfl, ts.take j ++ [M] ++ ts.drop j, w5, some (.int (0 + i)), some (.int r1), some (tieV M), by simp [List.map_take, List.map_drop], hw5.mono (by omega), by omega, by simp; omega, fun t ht => ?_⟩
      rcases List.mem_append.mp ht with q | q
      · rcases List.mem_append.mp q with q | q
        · exact ok t (List.mem_of_mem_take q)
        · simp at q; subst q; exact hM
      · exact ok t (List.mem_of_mem_drop q)
    simp -dsimp only [asgP, asgPs, clOf, fs_some, lc_some, List.getElem?_cons_zero, List.getElem?_cons_succ, List.set_cons_zero, List.set_cons_succ, Option.getD_some, Option.bind_some, Option.map_some, reduceCtorEq, ↓reduceIte, List.length_cons, List.length_nil, ld_int, ld_tup, ld_bl, ld_str, ld_non, isLD, hx, wcl]
    rw [tk 3]
    simp only [List.take_succ_cons, List.take_zero, List.drop_succ_cons, List.drop_zero]
    by_cases ce : ts = []
    · subst ce
      simp only [List.map_nil, List.isEmpty_nil, Bool.not_true] at enn
      simp only [List.map_nil]
      simp -dsimp only [w_int, w_bl, w_str, w_non, w_var, w_glb, w_tup, w_lst, w_bin, w_neg, w_not, w_cmp, w_chain, w_and, w_or, w_ife, w_ix, w_sl, w_slL, w_slH, w_slB, w_rev, w_call, w_blt, w_meth, w_isi, w_dsp, w_rngL, w_rngT, lcSrc, w_lc, w_es0, w_es1, w_ts0, w_ts1, w_asg, subO, w_asgSub, w_expr, w_ret, w_retN, w_ite, w_for, w_whl, w_pass, w_brk, w_cont, w_ss0, w_ss1, th_nx, th_ret, th_brk, th_cont, ob_some, br_t, br_f, qb_ok, qb_assoc, rd_s, rd_non, rd_bl, rd_int, rd_str, rd_tup, rd_lst, rd_fro, rd_dct, lookO, looks, on1, on2, intO, force, forces, forceQ, asgF, asgO, asgP, asgPs, Opd.v, ld_non, ld_bl, ld_int, ld_str, ld_tup, ld_lst, ld_fro, ld_dct, lk_non, lk_bl, lk_int, lk_str, lk_tup, lk_lst, lk_fro, lk_dct, lk_lck, clOf, finQ_ret, finQ_nx, exitQ, outsP, callP, argsP, backP,  List.getElem?_cons_zero, List.getElem?_cons_succ, List.set_cons_zero, List.set_cons_succ, Option.getD_some, Option.map_some, Option.bind_some, reduceCtorEq, ↓reduceIte, if_true, if_false, noRef, noRefs, emb, embs, tr_bl, tr_int, tr_non, tr_tup, tr_lst, bp_add, bp_sub, cp_eqI, cp_neI, cp_eqS, cp_neS, cp_lt, cp_le, cp_gt, cp_ge, cp_in, cp_notin, cp_isN, cp_isnN, isNon, mx_int, mn_int, ln_tup, ln_lst, ln_fro, tu_lst, tu_tup, li_tup, li_lst, in_bl, in_int, ix_tup', ix_lst', at_0, at_1, at_2, at_3, canP, Bool.not_true, Bool.not_false, Bool.false_eq_true, Bool.true_and, Bool.and_true, Bool.and_self, decide_true, decide_false, methO, Me.reads, kd_str', kd_tup', kd_lst', kd_dct', or_true, true_or, or_false, false_or, and_true, true_and, and_self, ne_eq, not_false_eq_true, not_true_eq_false, eq_self,  srcP, lockO, unlockO, restP, Option.join_some, lc_some, lc_t, lc_f, fs_some, wipeP, List.length_cons, List.length_nil, Nat.reduceAdd, List.map_cons, List.map_nil, List.cons_append, List.nil_append, List.replicate, Nat.reduceSub, beq_self_eq_true, lcOk, MT.slots, MT.slotss, List.all_cons, List.all_nil, List.contains_cons, List.contains_nil, Bool.true_or, Bool.or_true, Bool.or_false, Bool.false_or, Nat.reduceBEq, rng_len, List.length_map, it_tup, it_lst, is_tup, is_int, is_bl, is_lst, is_str, is_non, rv_tup, hx, wcl, D.sig, P.sig, rd_any hw.lk, rd_any hw1.lk, rd_any hw2.lk, rd_any hw3.lk, e1, e2, e3, enn, eN]
      exact fin N _ w3 hN hw3 (by omega)
    · have cf : (ts.map tieV).isEmpty = false := by simpa using ce
      rw [cf] at enn
      obtain ⟨r4, w4, e4, a4, b4, hw4⟩ := D.call _ w3 5 hw3 (by omega) (by decide) (by decide)
      by_cases c5 : r4 = 0
      · subst c5
        have lp : 0 < ts.length := List.length_pos_iff.mpr ce
        obtain ⟨r6, w6, e6, a6, b6, hw6⟩ := D.call _ w4 (ts.length : Int) hw4 (by omega) (by omega) (by omega)
        obtain ⟨j, rfl⟩ : ∃ j : Nat, r6 = (j : Int) := ⟨r6.toNat, by omega⟩
        have hj : j < ts.length := by omega
        have aj : atI (ts.map tieV) (j : Int) = some (tieV ts[j]) := by rw [at_nat, List.getElem?_map, List.getElem?_eq_getElem hj]; rfl
        simp -dsimp only [w_int, w_bl, w_str, w_non, w_var, w_glb, w_tup, w_lst, w_bin, w_neg, w_not, w_cmp, w_chain, w_and, w_or, w_ife, w_ix, w_sl, w_slL, w_slH, w_slB, w_rev, w_call, w_blt, w_meth, w_isi, w_dsp, w_rngL, w_rngT, lcSrc, w_lc, w_es0, w_es1, w_ts0, w_ts1, w_asg, subO, w_asgSub, w_expr, w_ret, w_retN, w_ite, w_for, w_whl, w_pass, w_brk, w_cont, w_ss0, w_ss1, th_nx, th_ret, th_brk, th_cont, ob_some, br_t, br_f, qb_ok, qb_assoc, rd_s, rd_non, rd_bl, rd_int, rd_str, rd_tup, rd_lst, rd_fro, rd_dct, lookO, looks, on1, on2, intO, force, forces, forceQ, asgF, asgO, asgP, asgPs, Opd.v, ld_non, ld_bl, ld_int, ld_str, ld_tup, ld_lst, ld_fro, ld_dct, lk_non, lk_bl, lk_int, lk_str, lk_tup, lk_lst, lk_fro, lk_dct, lk_lck, clOf, finQ_ret, finQ_nx, exitQ, outsP, callP, argsP, backP,  List.getElem?_cons_zero, List.getElem?_cons_succ, List.set_cons_zero, List.set_cons_succ, Option.getD_some, Option.map_some, Option.bind_some, reduceCtorEq, ↓reduceIte, if_true, if_false, noRef, noRefs, emb, embs, tr_bl, tr_int, tr_non, tr_tup, tr_lst, bp_add, bp_sub, cp_eqI, cp_neI, cp_eqS, cp_neS, cp_lt, cp_le, cp_gt, cp_ge, cp_in, cp_notin, cp_isN, cp_isnN, isNon, mx_int, mn_int, ln_tup, ln_lst, ln_fro, tu_lst, tu_tup, li_tup, li_lst, in_bl, in_int, ix_tup', ix_lst', at_0, at_1, at_2, at_3, canP, Bool.not_true, Bool.not_false, Bool.false_eq_true, Bool.true_and, Bool.and_true, Bool.and_self, decide_true, decide_false, methO, Me.reads, kd_str', kd_tup', kd_lst', kd_dct', or_true, true_or, or_false, false_or, and_true, true_and, and_self, ne_eq, not_false_eq_true, not_true_eq_false, eq_self,  srcP, lockO, unlockO, restP, Option.join_some, lc_some, lc_t, lc_f, fs_some, wipeP, List.length_cons, List.length_nil, Nat.reduceAdd, List.map_cons, List.map_nil, List.cons_append, List.nil_append, List.replicate, Nat.reduceSub, beq_self_eq_true, lcOk, MT.slots, MT.slotss, List.all_cons, List.all_nil, List.contains_cons, List.contains_nil, Bool.true_or, Bool.or_true, Bool.or_false, Bool.false_or, Nat.reduceBEq, rng_len, List.length_map, it_tup, it_lst, is_tup, is_int, is_bl, is_lst, is_str, is_non, rv_tup, hx, wcl, D.sig, P.sig, rd_any hw.lk, rd_any hw1.lk, rd_any hw2.lk, rd_any hw3.lk, rd_any hw4.lk, rd_any hw6.lk, e1, e2, e3, e4, e6, enn, Bool.not_false, eN, aj]
        exact fin ts[j] _ w6 (ok _ (List.getElem_mem hj)) hw6 (by omega)
      · simp -dsimp only [w_int, w_bl, w_str, w_non, w_var, w_glb, w_tup, w_lst, w_bin, w_neg, w_not, w_cmp, w_chain, w_and, w_or, w_ife, w_ix, w_sl, w_slL, w_slH, w_slB, w_rev, w_call, w_blt, w_meth, w_isi, w_dsp, w_rngL, w_rngT, lcSrc, w_lc, w_es0, w_es1, w_ts0, w_ts1, w_asg, subO, w_asgSub, w_expr, w_ret, w_retN, w_ite, w_for, w_whl, w_pass, w_brk, w_cont, w_ss0, w_ss1, th_nx, th_ret, th_brk, th_cont, ob_some, br_t, br_f, qb_ok, qb_assoc, rd_s, rd_non, rd_bl, rd_int, rd_str, rd_tup, rd_lst, rd_fro, rd_dct, lookO, looks, on1, on2, intO, force, forces, forceQ, asgF, asgO, asgP, asgPs, Opd.v, ld_non, ld_bl, ld_int, ld_str, ld_tup, ld_lst, ld_fro, ld_dct, lk_non, lk_bl, lk_int, lk_str, lk_tup, lk_lst, lk_fro, lk_dct, lk_lck, clOf, finQ_ret, finQ_nx, exitQ, outsP, callP, argsP, backP,  List.getElem?_cons_zero, List.getElem?_cons_succ, List.set_cons_zero, List.set_cons_succ, Option.getD_some, Option.map_some, Option.bind_some, reduceCtorEq, ↓reduceIte, if_true, if_false, noRef, noRefs, emb, embs, tr_bl, tr_int, tr_non, tr_tup, tr_lst, bp_add, bp_sub, cp_eqI, cp_neI, cp_eqS, cp_neS, cp_lt, cp_le, cp_gt, cp_ge, cp_in, cp_notin, cp_isN, cp_isnN, isNon, mx_int, mn_int, ln_tup, ln_lst, ln_fro, tu_lst, tu_tup, li_tup, li_lst, in_bl, in_int, ix_tup', ix_lst', at_0, at_1, at_2, at_3, canP, Bool.not_true, Bool.not_false, Bool.false_eq_true, Bool.true_and, Bool.and_true, Bool.and_self, decide_true, decide_false, methO, Me.reads, kd_str', kd_tup', kd_lst', kd_dct', or_true, true_or, or_false, false_or, and_true, true_and, and_self, ne_eq, not_false_eq_true, not_true_eq_false, eq_self,  srcP, lockO, unlockO, restP, Option.join_some, lc_some, lc_t, lc_f, fs_some, wipeP, List.length_cons, List.length_nil, Nat.reduceAdd, List.map_cons, List.map_nil, List.cons_append, List.nil_append, List.replicate, Nat.reduceSub, beq_self_eq_true, lcOk, MT.slots, MT.slotss, List.all_cons, List.all_nil, List.contains_cons, List.contains_nil, Bool.true_or, Bool.or_true, Bool.or_false, Bool.false_or, Nat.reduceBEq, rng_len, List.length_map, it_tup, it_lst, is_tup, is_int, is_bl, is_lst, is_str, is_non, rv_tup, hx, wcl, D.sig, P.sig, rd_any hw.lk, rd_any hw1.lk, rd_any hw2.lk, rd_any hw3.lk, rd_any hw4.lk, e1, e2, e3, e4, enn, Bool.not_false, eN, beq_eq_false_iff_ne.mpr c5]
        exact fin N _ w4 hN hw4 (by omega)
  · rintro fl σ ⟨rfl, ts, w, x7, x8, x9, rfl, hw, hik, hl, ok⟩
    rw [rng_len] at hl hw
    simp -dsimp only [w_int, w_bl, w_str, w_non, w_var, w_glb, w_tup, w_lst, w_bin, w_neg, w_not, w_cmp, w_chain, w_and, w_or, w_ife, w_ix, w_sl, w_slL, w_slH, w_slB, w_rev, w_call, w_blt, w_meth, w_isi, w_dsp, w_rngL, w_rngT, lcSrc, w_lc, w_es0, w_es1, w_ts0, w_ts1, w_asg, subO, w_asgSub, w_expr, w_ret, w_retN, w_ite, w_for, w_whl, w_pass, w_brk, w_cont, w_ss0, w_ss1, th_nx, th_ret, th_brk, th_cont, ob_some, br_t, br_f, qb_ok, qb_assoc, rd_s, rd_non, rd_bl, rd_int, rd_str, rd_tup, rd_lst, rd_fro, rd_dct, lookO, looks, on1, on2, intO, force, forces, forceQ, asgF, asgO, asgP, asgPs, Opd.v, ld_non, ld_bl, ld_int, ld_str, ld_tup, ld_lst, ld_fro, ld_dct, lk_non, lk_bl, lk_int, lk_str, lk_tup, lk_lst, lk_fro, lk_dct, lk_lck, clOf, finQ_ret, finQ_nx, exitQ, outsP, callP, argsP, backP,  List.getElem?_cons_zero, List.getElem?_cons_succ, List.set_cons_zero, List.set_cons_succ, Option.getD_some, Option.map_some, Option.bind_some, reduceCtorEq, ↓reduceIte, if_true, if_false, noRef, noRefs, emb, embs, tr_bl, tr_int, tr_non, tr_tup, tr_lst, bp_add, bp_sub, cp_eqI, cp_neI, cp_eqS, cp_neS, cp_lt, cp_le, cp_gt, cp_ge, cp_in, cp_notin, cp_isN, cp_isnN, isNon, mx_int, mn_int, ln_tup, ln_lst, ln_fro, tu_lst, tu_tup, li_tup, li_lst, in_bl, in_int, ix_tup', ix_lst', at_0, at_1, at_2, at_3, canP, Bool.not_true, Bool.not_false, Bool.false_eq_true, Bool.true_and, Bool.and_true, Bool.and_self, decide_true, decide_false, methO, Me.reads, kd_str', kd_tup', kd_lst', kd_dct', or_true, true_or, or_false, false_or, and_true, true_and, and_self, ne_eq, not_false_eq_true, not_true_eq_false, eq_self,  srcP, lockO, unlockO, restP, Option.join_some, lc_some, lc_t, lc_f, fs_some, wipeP, List.length_cons, List.length_nil, Nat.reduceAdd, List.map_cons, List.map_nil, List.cons_append, List.nil_append, List.replicate, Nat.reduceSub, beq_self_eq_true, lcOk, MT.slots, MT.slotss, List.all_cons, List.all_nil, List.contains_cons, List.contains_nil, Bool.true_or, Bool.or_true, Bool.or_false, Bool.false_or, Nat.reduceBEq, rng_len, List.length_map, it_tup, it_lst, is_tup, is_int, is_bl, is_lst, is_str, is_non, rv_tup, hx, wcl]
    exact .ok ⟨rfl, ts, w, _, _, _, rfl, hw.mono (by omega), by omega, ok⟩
theorem web_ok {Γ : Str → Option FP} {gl : Str → Option MV} {W d : Nat} {c : Nat → Cls} (g : Γ "_law_web" = some p_x_web) (D : ∀ c, Draw ⟨runP Γ gl W d, sigP Γ, c, gl, W⟩) (P : ∀ c, Price ⟨runP Γ gl W d, sigP Γ, c, gl, W⟩) : WebS ⟨runP Γ gl W (d + 1), sigP Γ, c, gl, W⟩ := by
  refine ⟨sig_eq g, fun T v p m b hv hT h1 h2 h3 => ?_⟩
  dsimp only
  rw [run_eq g rfl rfl]
  generalize hX : (⟨runP Γ gl W d, sigP Γ, clOf [.io, .sh, .sh, .sh, .sh, .sh, .ow, .sh, .sh, .sh], gl, W⟩ : CQ) = X
  have hx : X.cl = clOf wcl := by rw [← hX]; rfl
  have D : Draw X := by rw [← hX]; exact D _
  have P : Price X := by rw [← hX]; exact P _
  obtain ⟨r, u, e, r0, r1, hu⟩ := D.call T v p hv (by omega) (by omega) (by omega)
  obtain ⟨n, hn⟩ : ∃ n : Nat, 1 + r = (n : Int) := ⟨(1 + r).toNat, by omega⟩
  obtain ⟨way, u2, e2, w0, w1, hu2⟩ := D.call _ u 4 hu (by omega) (by decide) (by decide)
  have fin : Evo (finQ [.io, .pl, .pl, .pl] false [v, .int p, .int m, .bl b] (evTs' X b_x_web [some v, some (.int p), some (.int m), some (.bl b), none, none, none, none, none, none])) fun o ios => ∃ (n : Nat) (ts : List AT) (v' : PV), o = .val (webV n ts) ∧ ios = [v', .int p, .int m, .bl b] ∧ 1 ≤ n ∧ n ≤ p ∧ ts.length ≤ m ∧ (∀ t ∈ ts, okA b n t) ∧ Fd (T + 10000) v' := by
    refine finQ_ev ?_
    rw [tk 3, show b_x_web.take 3 = [.asg (.nm 4) (.bin .Add (.c (.int 1)) (.call "_law_draw" [.var 0, .var 1])), .asg (.nm 5) (.call "_law_draw" [.var 0, .c (.int 4)]), .asg (.nm 6) (.lst [])] from rfl]
    simp -dsimp only [w_int, w_bl, w_str, w_non, w_var, w_glb, w_tup, w_lst, w_bin, w_neg, w_not, w_cmp, w_chain, w_and, w_or, w_ife, w_ix, w_sl, w_slL, w_slH, w_slB, w_rev, w_call, w_blt, w_meth, w_isi, w_dsp, w_rngL, w_rngT, lcSrc, w_lc, w_es0, w_es1, w_ts0, w_ts1, w_asg, subO, w_asgSub, w_expr, w_ret, w_retN, w_ite, w_for, w_whl, w_pass, w_brk, w_cont, w_ss0, w_ss1, th_nx, th_ret, th_brk, th_cont, ob_some, br_t, br_f, qb_ok, qb_assoc, rd_s, rd_non, rd_bl, rd_int, rd_str, rd_tup, rd_lst, rd_fro, rd_dct, lookO, looks, on1, on2, intO, force, forces, forceQ, asgF, asgO, asgP, asgPs, Opd.v, ld_non, ld_bl, ld_int, ld_str, ld_tup, ld_lst, ld_fro, ld_dct, lk_non, lk_bl, lk_int, lk_str, lk_tup, lk_lst, lk_fro, lk_dct, lk_lck, clOf, finQ_ret, finQ_nx, exitQ, outsP, callP, argsP, backP,  List.getElem?_cons_zero, List.getElem?_cons_succ, List.set_cons_zero, List.set_cons_succ, Option.getD_some, Option.map_some, Option.bind_some, reduceCtorEq, ↓reduceIte, if_true, if_false, noRef, noRefs, emb, embs, tr_bl, tr_int, tr_non, tr_tup, tr_lst, bp_add, bp_sub, cp_eqI, cp_neI, cp_eqS, cp_neS, cp_lt, cp_le, cp_gt, cp_ge, cp_in, cp_notin, cp_isN, cp_isnN, isNon, mx_int, mn_int, ln_tup, ln_lst, ln_fro, tu_lst, tu_tup, li_tup, li_lst, in_bl, in_int, ix_tup', ix_lst', at_0, at_1, at_2, at_3, canP, Bool.not_true, Bool.not_false, Bool.false_eq_true, Bool.true_and, Bool.and_true, Bool.and_self, decide_true, decide_false, methO, Me.reads, kd_str', kd_tup', kd_lst', kd_dct', or_true, true_or, or_false, false_or, and_true, true_and, and_self, ne_eq, not_false_eq_true, not_true_eq_false, eq_self,  srcP, lockO, unlockO, restP, Option.join_some, lc_some, lc_t, lc_f, fs_some, wipeP, List.length_cons, List.length_nil, Nat.reduceAdd, List.map_cons, List.map_nil, List.cons_append, List.nil_append, List.replicate, Nat.reduceSub, beq_self_eq_true, lcOk, MT.slots, MT.slotss, List.all_cons, List.all_nil, List.contains_cons, List.contains_nil, Bool.true_or, Bool.or_true, Bool.or_false, Bool.false_or, Nat.reduceBEq, rng_len, List.length_map, it_tup, it_lst, is_tup, is_int, is_bl, is_lst, is_str, is_non, rv_tup, hx, wcl, D.sig, rd_any hv.lk, rd_any hu.lk, e, e2, hn]
    rw [tk 1]
    refine .bnd ((web_4 hx P hu2 (by omega) (by omega) (by omega)).imp ?_)
    rintro fl σ ⟨rfl, ts, u, rfl, hu, hl, ok⟩
    rw [th_nx, tk 1]
    refine .bnd ((web_5 hx P hu (by omega) (by omega) (by omega) hl ok).imp ?_)
    rintro fl σ ⟨rfl, ts, u, rfl, hu, hl, ok⟩
    rw [th_nx, tk 1]
    refine .bnd ((web_6 hx D P hu (by omega) (by omega) (by omega) h3 hl ok).imp ?_)
    rintro fl σ ⟨rfl, ts, u, x7, x8, x9, rfl, hu, hl, ok⟩
    rw [th_nx, show List.drop 1 (List.drop 1 (List.drop 1 (b_x_web.drop 3))) = [.ret (.tup [.var 4, .blt .tuple [.slH (.var 6) (.var 2)]])] from rfl]
    simp -dsimp only [w_int, w_bl, w_str, w_non, w_var, w_glb, w_tup, w_lst, w_bin, w_neg, w_not, w_cmp, w_chain, w_and, w_or, w_ife, w_ix, w_sl, w_slL, w_slH, w_slB, w_rev, w_call, w_blt, w_meth, w_isi, w_dsp, w_rngL, w_rngT, lcSrc, w_lc, w_es0, w_es1, w_ts0, w_ts1, w_asg, subO, w_asgSub, w_expr, w_ret, w_retN, w_ite, w_for, w_whl, w_pass, w_brk, w_cont, w_ss0, w_ss1, th_nx, th_ret, th_brk, th_cont, ob_some, br_t, br_f, qb_ok, qb_assoc, rd_s, rd_non, rd_bl, rd_int, rd_str, rd_tup, rd_lst, rd_fro, rd_dct, lookO, looks, on1, on2, intO, force, forces, forceQ, asgF, asgO, asgP, asgPs, Opd.v, ld_non, ld_bl, ld_int, ld_str, ld_tup, ld_lst, ld_fro, ld_dct, lk_non, lk_bl, lk_int, lk_str, lk_tup, lk_lst, lk_fro, lk_dct, lk_lck, clOf, finQ_ret, finQ_nx, exitQ, outsP, callP, argsP, backP,  List.getElem?_cons_zero, List.getElem?_cons_succ, List.set_cons_zero, List.set_cons_succ, Option.getD_some, Option.map_some, Option.bind_some, reduceCtorEq, ↓reduceIte, if_true, if_false, noRef, noRefs, emb, embs, tr_bl, tr_int, tr_non, tr_tup, tr_lst, bp_add, bp_sub, cp_eqI, cp_neI, cp_eqS, cp_neS, cp_lt, cp_le, cp_gt, cp_ge, cp_in, cp_notin, cp_isN, cp_isnN, isNon, mx_int, mn_int, ln_tup, ln_lst, ln_fro, tu_lst, tu_tup, li_tup, li_lst, in_bl, in_int, ix_tup', ix_lst', at_0, at_1, at_2, at_3, canP, Bool.not_true, Bool.not_false, Bool.false_eq_true, Bool.true_and, Bool.and_true, Bool.and_self, decide_true, decide_false, methO, Me.reads, kd_str', kd_tup', kd_lst', kd_dct', or_true, true_or, or_false, false_or, and_true, true_and, and_self, ne_eq, not_false_eq_true, not_true_eq_false, eq_self,  srcP, lockO, unlockO, restP, Option.join_some, lc_some, lc_t, lc_f, fs_some, wipeP, List.length_cons, List.length_nil, Nat.reduceAdd, List.map_cons, List.map_nil, List.cons_append, List.nil_append, List.replicate, Nat.reduceSub, beq_self_eq_true, lcOk, MT.slots, MT.slotss, List.all_cons, List.all_nil, List.contains_cons, List.contains_nil, Bool.true_or, Bool.or_true, Bool.or_false, Bool.false_or, Nat.reduceBEq, rng_len, List.length_map, it_tup, it_lst, is_tup, is_int, is_bl, is_lst, is_str, is_non, rv_tup, hx, wcl, rd_any hu.lk, sl_hL]
    refine .ok (.ret ?_)
    simp -dsimp only [w_int, w_bl, w_str, w_non, w_var, w_glb, w_tup, w_lst, w_bin, w_neg, w_not, w_cmp, w_chain, w_and, w_or, w_ife, w_ix, w_sl, w_slL, w_slH, w_slB, w_rev, w_call, w_blt, w_meth, w_isi, w_dsp, w_rngL, w_rngT, lcSrc, w_lc, w_es0, w_es1, w_ts0, w_ts1, w_asg, subO, w_asgSub, w_expr, w_ret, w_retN, w_ite, w_for, w_whl, w_pass, w_brk, w_cont, w_ss0, w_ss1, th_nx, th_ret, th_brk, th_cont, ob_some, br_t, br_f, qb_ok, qb_assoc, rd_s, rd_non, rd_bl, rd_int, rd_str, rd_tup, rd_lst, rd_fro, rd_dct, lookO, looks, on1, on2, intO, force, forces, forceQ, asgF, asgO, asgP, asgPs, Opd.v, ld_non, ld_bl, ld_int, ld_str, ld_tup, ld_lst, ld_fro, ld_dct, lk_non, lk_bl, lk_int, lk_str, lk_tup, lk_lst, lk_fro, lk_dct, lk_lck, clOf, finQ_ret, finQ_nx, exitQ, outsP, callP, argsP, backP,  List.getElem?_cons_zero, List.getElem?_cons_succ, List.set_cons_zero, List.set_cons_succ, Option.getD_some, Option.map_some, Option.bind_some, reduceCtorEq, ↓reduceIte, if_true, if_false, noRef, noRefs, emb, embs, tr_bl, tr_int, tr_non, tr_tup, tr_lst, bp_add, bp_sub, cp_eqI, cp_neI, cp_eqS, cp_neS, cp_lt, cp_le, cp_gt, cp_ge, cp_in, cp_notin, cp_isN, cp_isnN, isNon, mx_int, mn_int, ln_tup, ln_lst, ln_fro, tu_lst, tu_tup, li_tup, li_lst, in_bl, in_int, ix_tup', ix_lst', at_0, at_1, at_2, at_3, canP, Bool.not_true, Bool.not_false, Bool.false_eq_true, Bool.true_and, Bool.and_true, Bool.and_self, decide_true, decide_false, methO, Me.reads, kd_str', kd_tup', kd_lst', kd_dct', or_true, true_or, or_false, false_or, and_true, true_and, and_self, ne_eq, not_false_eq_true, not_true_eq_false, eq_self,  srcP, lockO, unlockO, restP, Option.join_some, lc_some, lc_t, lc_f, fs_some, wipeP, List.length_cons, List.length_nil, Nat.reduceAdd, List.map_cons, List.map_nil, List.cons_append, List.nil_append, List.replicate, Nat.reduceSub, beq_self_eq_true, lcOk, MT.slots, MT.slotss, List.all_cons, List.all_nil, List.contains_cons, List.contains_nil, Bool.true_or, Bool.or_true, Bool.or_false, Bool.false_or, Nat.reduceBEq, rng_len, List.length_map, it_tup, it_lst, is_tup, is_int, is_bl, is_lst, is_str, is_non, rv_tup, hu.lk]
    refine .ok ⟨n, ts.take m, u, by simp [webV, List.map_take], rfl, by omega, by omega, by simp; omega, fun t ht => ok t (List.mem_of_mem_take ht), hu.mono (by omega)⟩
  obtain ⟨o, ios, e, n, ts, v', rfl, rfl, q⟩ := fin
  exact ⟨n, ts, v', e, q⟩
/-! sets of numbers -/
def natsP (S : List Nat) : List PV := S.map fun k : Nat => .int (k : Int)
structure Some (X : CQ) : Prop where
  sig : X.sig "_law_some" = some ([.io, .pl], false)
  call : ∀ T v (m : Nat), Fd T v → T + 1100 < line → m ≤ 1000 → ∃ (S : List Nat) (v' : PV), X.call "_law_some" [v, .int m] = .ok (.val (.tup (natsP S))) [v', .int m] ∧ S.Pairwise (· < ·) ∧ (∀ s ∈ S, s < m) ∧ Fd (T + 1100) v'
theorem rng_nats {n : Nat} : rngIP 0 n = natsP (List.range n) := by
  simp only [rngIP, natsP]
  refine List.map_congr_left fun k _ => ?_
  rw [Int.zero_add]
theorem some_ok {Γ : Str → Option FP} {gl : Str → Option MV} {W d : Nat} {c : Nat → Cls} (g : Γ "_law_some" = some p_x_some) (D : ∀ c, Draw ⟨runP Γ gl W d, sigP Γ, c, gl, W⟩) : Some ⟨runP Γ gl W (d + 1), sigP Γ, c, gl, W⟩ := by
  refine ⟨sig_eq g, fun T v m hv hT hm => ?_⟩
  dsimp only
  rw [run_eq g rfl rfl]
  generalize hX : (⟨runP Γ gl W d, sigP Γ, clOf [.io, .sh, .sh, .sh], gl, W⟩ : CQ) = X
  have hx : X.cl = clOf [.io, .sh, .sh, .sh] := by rw [← hX]
  have D : Draw X := by rw [← hX]; exact D _
  obtain ⟨way, u, e, w0, w1, hu⟩ := D.call T v 6 hv (by omega) (by decide) (by decide)
  by_cases c : way < 2
  · have hw : way = 0 ∨ way = 1 := by omega
    have em : binP .Mult (.int m) (.int way) = some (.val (.int ((m * way.toNat : Nat) : Int))) := by
      rw [bp_mul (.inr (by omega))]
      rcases hw with rfl | rfl <;> simp
    have er : rngP (.int 0) (.int ((m * way.toNat : Nat) : Int)) = some (rngIP 0 (m * way.toNat)) := rngP_ok (by rcases hw with rfl | rfl <;> simp <;> omega)
    simp only [b_x_some]
    simp -dsimp only [w_int, w_bl, w_str, w_non, w_var, w_glb, w_tup, w_lst, w_bin, w_neg, w_not, w_cmp, w_chain, w_and, w_or, w_ife, w_ix, w_sl, w_slL, w_slH, w_slB, w_rev, w_call, w_blt, w_meth, w_isi, w_dsp, w_rngL, w_rngT, lcSrc, w_lc, w_es0, w_es1, w_ts0, w_ts1, w_asg, subO, w_asgSub, w_expr, w_ret, w_retN, w_ite, w_for, w_whl, w_pass, w_brk, w_cont, w_ss0, w_ss1, th_nx, th_ret, th_brk, th_cont, ob_some, br_t, br_f, qb_ok, qb_assoc, rd_s, rd_non, rd_bl, rd_int, rd_str, rd_tup, rd_lst, rd_fro, rd_dct, lookO, looks, on1, on2, intO, force, forces, forceQ, asgF, asgO, asgP, asgPs, Opd.v, ld_non, ld_bl, ld_int, ld_str, ld_tup, ld_lst, ld_fro, ld_dct, lk_non, lk_bl, lk_int, lk_str, lk_tup, lk_lst, lk_fro, lk_dct, lk_lck, clOf, finQ_ret, finQ_nx, exitQ, outsP, callP, argsP, backP,  List.getElem?_cons_zero, List.getElem?_cons_succ, List.set_cons_zero, List.set_cons_succ, Option.getD_some, Option.map_some, Option.bind_some, reduceCtorEq, ↓reduceIte, if_true, if_false, noRef, noRefs, emb, embs, tr_bl, tr_int, tr_non, tr_tup, tr_lst, bp_add, bp_sub, cp_eqI, cp_neI, cp_eqS, cp_neS, cp_lt, cp_le, cp_gt, cp_ge, cp_in, cp_notin, cp_isN, cp_isnN, isNon, mx_int, mn_int, ln_tup, ln_lst, ln_fro, tu_lst, tu_tup, li_tup, li_lst, in_bl, in_int, ix_tup', ix_lst', at_0, at_1, at_2, at_3, canP, Bool.not_true, Bool.not_false, Bool.false_eq_true, Bool.true_and, Bool.and_true, Bool.and_self, decide_true, decide_false, methO, Me.reads, kd_str', kd_tup', kd_lst', kd_dct', or_true, true_or, or_false, false_or, and_true, true_and, and_self, ne_eq, not_false_eq_true, not_true_eq_false, eq_self,  srcP, lockO, unlockO, restP, Option.join_some, lc_some, lc_t, lc_f, fs_some, wipeP, List.length_cons, List.length_nil, Nat.reduceAdd, List.map_cons, List.map_nil, List.cons_append, List.nil_append, List.replicate, Nat.reduceSub, beq_self_eq_true, lcOk, MT.slots, MT.slotss, List.all_cons, List.all_nil, List.contains_cons, List.contains_nil, Bool.true_or, Bool.or_true, Bool.or_false, Bool.false_or, Nat.reduceBEq, rng_len, List.length_map, it_tup, it_lst, is_tup, is_int, is_bl, is_lst, is_str, is_non, rv_tup, hx, D.sig, rd_any hv.lk, rd_any hu.lk, e, c, em, er, hu.lk]
    refine ⟨List.range (m * way.toNat), u, by rw [rng_nats], List.pairwise_lt_range, fun s hs => ?_, hu.mono (by omega)⟩
    rcases hw with rfl | rfl <;> simp at hs <;> omega
  · have fin : Evo (finQ [.io, .pl] false [v, .int m] (evTs' X b_x_some [some v, some (.int m), none, none])) fun o ios => ∃ (S : List Nat) (v' : PV), o = .val (.tup (natsP S)) ∧ ios = [v', .int m] ∧ S.Pairwise (· < ·) ∧ (∀ s ∈ S, s < m) ∧ Fd (T + 1100) v' := by
      refine finQ_ev ?_
      simp only [b_x_some]
      simp -dsimp only [w_int, w_bl, w_str, w_non, w_var, w_glb, w_tup, w_lst, w_bin, w_neg, w_not, w_cmp, w_chain, w_and, w_or, w_ife, w_ix, w_sl, w_slL, w_slH, w_slB, w_rev, w_call, w_blt, w_meth, w_isi, w_dsp, w_rngL, w_rngT, lcSrc, w_lc, w_es0, w_es1, w_ts0, w_ts1, w_asg, subO, w_asgSub, w_expr, w_ret, w_retN, w_ite, w_for, w_whl, w_pass, w_brk, w_cont, w_ss0, w_ss1, th_nx, th_ret, th_brk, th_cont, ob_some, br_t, br_f, qb_ok, qb_assoc, rd_s, rd_non, rd_bl, rd_int, rd_str, rd_tup, rd_lst, rd_fro, rd_dct, lookO, looks, on1, on2, intO, force, forces, forceQ, asgF, asgO, asgP, asgPs, Opd.v, ld_non, ld_bl, ld_int, ld_str, ld_tup, ld_lst, ld_fro, ld_dct, lk_non, lk_bl, lk_int, lk_str, lk_tup, lk_lst, lk_fro, lk_dct, lk_lck, clOf, finQ_ret, finQ_nx, exitQ, outsP, callP, argsP, backP,  List.getElem?_cons_zero, List.getElem?_cons_succ, List.set_cons_zero, List.set_cons_succ, Option.getD_some, Option.map_some, Option.bind_some, reduceCtorEq, ↓reduceIte, if_true, if_false, noRef, noRefs, emb, embs, tr_bl, tr_int, tr_non, tr_tup, tr_lst, bp_add, bp_sub, cp_eqI, cp_neI, cp_eqS, cp_neS, cp_lt, cp_le, cp_gt, cp_ge, cp_in, cp_notin, cp_isN, cp_isnN, isNon, mx_int, mn_int, ln_tup, ln_lst, ln_fro, tu_lst, tu_tup, li_tup, li_lst, in_bl, in_int, ix_tup', ix_lst', at_0, at_1, at_2, at_3, canP, Bool.not_true, Bool.not_false, Bool.false_eq_true, Bool.true_and, Bool.and_true, Bool.and_self, decide_true, decide_false, methO, Me.reads, kd_str', kd_tup', kd_lst', kd_dct', or_true, true_or, or_false, false_or, and_true, true_and, and_self, ne_eq, not_false_eq_true, not_true_eq_false, eq_self,  srcP, lockO, unlockO, restP, Option.join_some, lc_some, lc_t, lc_f, fs_some, wipeP, List.length_cons, List.length_nil, Nat.reduceAdd, List.map_cons, List.map_nil, List.cons_append, List.nil_append, List.replicate, Nat.reduceSub, beq_self_eq_true, lcOk, MT.slots, MT.slotss, List.all_cons, List.all_nil, List.contains_cons, List.contains_nil, Bool.true_or, Bool.or_true, Bool.or_false, Bool.false_or, Nat.reduceBEq, rng_len, List.length_map, it_tup, it_lst, is_tup, is_int, is_bl, is_lst, is_str, is_non, rv_tup, hx, D.sig, rd_any hv.lk, rd_any hu.lk, e, c, it_rng' (show m ≤ 1000000 by omega), lm_le (show m ≤ 1000000 by omega)]
      refine .bnd (compD_inv (fun i zs σ => ∃ (S : List Nat) (w : PV), zs = natsP S ∧ S.Pairwise (· < ·) ∧ (∀ s ∈ S, s < i) ∧ i ≤ m ∧ σ = [some w, some (.int m), some (.int way), none] ∧ Fd (T + 1 + i) w) ⟨[], u, rfl, .nil, by simp, by omega, rfl, hu⟩ ?_ ?_)
      · rintro i x zs σ hi ⟨S, w, rfl, hp, hS, him, rfl, hw⟩
        obtain ⟨rfl, hi2⟩ := rng_at hi
        obtain ⟨r, w', e2, r0, r1, hw'⟩ := D.call _ w way hw (by omega) (by omega) (by omega)
        have z0 : (0 : Int) + (i : Int) = i := by omega
        by_cases c2 : r = 0
        · subst c2
          simp -dsimp only [w_int, w_bl, w_str, w_non, w_var, w_glb, w_tup, w_lst, w_bin, w_neg, w_not, w_cmp, w_chain, w_and, w_or, w_ife, w_ix, w_sl, w_slL, w_slH, w_slB, w_rev, w_call, w_blt, w_meth, w_isi, w_dsp, w_rngL, w_rngT, lcSrc, w_lc, w_es0, w_es1, w_ts0, w_ts1, w_asg, subO, w_asgSub, w_expr, w_ret, w_retN, w_ite, w_for, w_whl, w_pass, w_brk, w_cont, w_ss0, w_ss1, th_nx, th_ret, th_brk, th_cont, ob_some, br_t, br_f, qb_ok, qb_assoc, rd_s, rd_non, rd_bl, rd_int, rd_str, rd_tup, rd_lst, rd_fro, rd_dct, lookO, looks, on1, on2, intO, force, forces, forceQ, asgF, asgO, asgP, asgPs, Opd.v, ld_non, ld_bl, ld_int, ld_str, ld_tup, ld_lst, ld_fro, ld_dct, lk_non, lk_bl, lk_int, lk_str, lk_tup, lk_lst, lk_fro, lk_dct, lk_lck, clOf, finQ_ret, finQ_nx, exitQ, outsP, callP, argsP, backP,  List.getElem?_cons_zero, List.getElem?_cons_succ, List.set_cons_zero, List.set_cons_succ, Option.getD_some, Option.map_some, Option.bind_some, reduceCtorEq, ↓reduceIte, if_true, if_false, noRef, noRefs, emb, embs, tr_bl, tr_int, tr_non, tr_tup, tr_lst, bp_add, bp_sub, cp_eqI, cp_neI, cp_eqS, cp_neS, cp_lt, cp_le, cp_gt, cp_ge, cp_in, cp_notin, cp_isN, cp_isnN, isNon, mx_int, mn_int, ln_tup, ln_lst, ln_fro, tu_lst, tu_tup, li_tup, li_lst, in_bl, in_int, ix_tup', ix_lst', at_0, at_1, at_2, at_3, canP, Bool.not_true, Bool.not_false, Bool.false_eq_true, Bool.true_and, Bool.and_true, Bool.and_self, decide_true, decide_false, methO, Me.reads, kd_str', kd_tup', kd_lst', kd_dct', or_true, true_or, or_false, false_or, and_true, true_and, and_self, ne_eq, not_false_eq_true, not_true_eq_false, eq_self,  srcP, lockO, unlockO, restP, Option.join_some, lc_some, lc_t, lc_f, fs_some, wipeP, List.length_cons, List.length_nil, Nat.reduceAdd, List.map_cons, List.map_nil, List.cons_append, List.nil_append, List.replicate, Nat.reduceSub, beq_self_eq_true, lcOk, MT.slots, MT.slotss, List.all_cons, List.all_nil, List.contains_cons, List.contains_nil, Bool.true_or, Bool.or_true, Bool.or_false, Bool.false_or, Nat.reduceBEq, rng_len, List.length_map, it_tup, it_lst, is_tup, is_int, is_bl, is_lst, is_str, is_non, rv_tup, hx, D.sig, rd_any hw.lk, rd_any hw'.lk, e2, z0]
          refine .ok ⟨S ++ [i], w', by simp [natsP], ?_, fun s hs => ?_, by omega, rfl, hw'.mono (by omega)⟩
          · rw [List.pairwise_append]
            refine ⟨hp, by simp, fun a ha b hb => ?_⟩
            simp at hb; subst hb; exact hS a ha
          · rcases List.mem_append.mp hs with q | q
            · have := hS s q; omega
            · simp at q; omega
        · simp -dsimp only [w_int, w_bl, w_str, w_non, w_var, w_glb, w_tup, w_lst, w_bin, w_neg, w_not, w_cmp, w_chain, w_and, w_or, w_ife, w_ix, w_sl, w_slL, w_slH, w_slB, w_rev, w_call, w_blt, w_meth, w_isi, w_dsp, w_rngL, w_rngT, lcSrc, w_lc, w_es0, w_es1, w_ts0, w_ts1, w_asg, subO, w_asgSub, w_expr, w_ret, w_retN, w_ite, w_for, w_whl, w_pass, w_brk, w_cont, w_ss0, w_ss1, th_nx, th_ret, th_brk, th_cont, ob_some, br_t, br_f, qb_ok, qb_assoc, rd_s, rd_non, rd_bl, rd_int, rd_str, rd_tup, rd_lst, rd_fro, rd_dct, lookO, looks, on1, on2, intO, force, forces, forceQ, asgF, asgO, asgP, asgPs, Opd.v, ld_non, ld_bl, ld_int, ld_str, ld_tup, ld_lst, ld_fro, ld_dct, lk_non, lk_bl, lk_int, lk_str, lk_tup, lk_lst, lk_fro, lk_dct, lk_lck, clOf, finQ_ret, finQ_nx, exitQ, outsP, callP, argsP, backP,  List.getElem?_cons_zero, List.getElem?_cons_succ, List.set_cons_zero, List.set_cons_succ, Option.getD_some, Option.map_some, Option.bind_some, reduceCtorEq, ↓reduceIte, if_true, if_false, noRef, noRefs, emb, embs, tr_bl, tr_int, tr_non, tr_tup, tr_lst, bp_add, bp_sub, cp_eqI, cp_neI, cp_eqS, cp_neS, cp_lt, cp_le, cp_gt, cp_ge, cp_in, cp_notin, cp_isN, cp_isnN, isNon, mx_int, mn_int, ln_tup, ln_lst, ln_fro, tu_lst, tu_tup, li_tup, li_lst, in_bl, in_int, ix_tup', ix_lst', at_0, at_1, at_2, at_3, canP, Bool.not_true, Bool.not_false, Bool.false_eq_true, Bool.true_and, Bool.and_true, Bool.and_self, decide_true, decide_false, methO, Me.reads, kd_str', kd_tup', kd_lst', kd_dct', or_true, true_or, or_false, false_or, and_true, true_and, and_self, ne_eq, not_false_eq_true, not_true_eq_false, eq_self,  srcP, lockO, unlockO, restP, Option.join_some, lc_some, lc_t, lc_f, fs_some, wipeP, List.length_cons, List.length_nil, Nat.reduceAdd, List.map_cons, List.map_nil, List.cons_append, List.nil_append, List.replicate, Nat.reduceSub, beq_self_eq_true, lcOk, MT.slots, MT.slotss, List.all_cons, List.all_nil, List.contains_cons, List.contains_nil, Bool.true_or, Bool.or_true, Bool.or_false, Bool.false_or, Nat.reduceBEq, rng_len, List.length_map, it_tup, it_lst, is_tup, is_int, is_bl, is_lst, is_str, is_non, rv_tup, hx, D.sig, rd_any hw.lk, rd_any hw'.lk, e2, z0, beq_eq_false_iff_ne.mpr c2]
          exact .ok ⟨S, w', by simp, hp, fun s hs => by have := hS s hs; omega, by omega, rfl, hw'.mono (by omega)⟩
      · rintro zs σ ⟨S, w, rfl, hp, hS, him, rfl, hw⟩
        rw [rng_len] at hS hw
        simp -dsimp only [w_int, w_bl, w_str, w_non, w_var, w_glb, w_tup, w_lst, w_bin, w_neg, w_not, w_cmp, w_chain, w_and, w_or, w_ife, w_ix, w_sl, w_slL, w_slH, w_slB, w_rev, w_call, w_blt, w_meth, w_isi, w_dsp, w_rngL, w_rngT, lcSrc, w_lc, w_es0, w_es1, w_ts0, w_ts1, w_asg, subO, w_asgSub, w_expr, w_ret, w_retN, w_ite, w_for, w_whl, w_pass, w_brk, w_cont, w_ss0, w_ss1, th_nx, th_ret, th_brk, th_cont, ob_some, br_t, br_f, qb_ok, qb_assoc, rd_s, rd_non, rd_bl, rd_int, rd_str, rd_tup, rd_lst, rd_fro, rd_dct, lookO, looks, on1, on2, intO, force, forces, forceQ, asgF, asgO, asgP, asgPs, Opd.v, ld_non, ld_bl, ld_int, ld_str, ld_tup, ld_lst, ld_fro, ld_dct, lk_non, lk_bl, lk_int, lk_str, lk_tup, lk_lst, lk_fro, lk_dct, lk_lck, clOf, finQ_ret, finQ_nx, exitQ, outsP, callP, argsP, backP,  List.getElem?_cons_zero, List.getElem?_cons_succ, List.set_cons_zero, List.set_cons_succ, Option.getD_some, Option.map_some, Option.bind_some, reduceCtorEq, ↓reduceIte, if_true, if_false, noRef, noRefs, emb, embs, tr_bl, tr_int, tr_non, tr_tup, tr_lst, bp_add, bp_sub, cp_eqI, cp_neI, cp_eqS, cp_neS, cp_lt, cp_le, cp_gt, cp_ge, cp_in, cp_notin, cp_isN, cp_isnN, isNon, mx_int, mn_int, ln_tup, ln_lst, ln_fro, tu_lst, tu_tup, li_tup, li_lst, in_bl, in_int, ix_tup', ix_lst', at_0, at_1, at_2, at_3, canP, Bool.not_true, Bool.not_false, Bool.false_eq_true, Bool.true_and, Bool.and_true, Bool.and_self, decide_true, decide_false, methO, Me.reads, kd_str', kd_tup', kd_lst', kd_dct', or_true, true_or, or_false, false_or, and_true, true_and, and_self, ne_eq, not_false_eq_true, not_true_eq_false, eq_self,  srcP, lockO, unlockO, restP, Option.join_some, lc_some, lc_t, lc_f, fs_some, wipeP, List.length_cons, List.length_nil, Nat.reduceAdd, List.map_cons, List.map_nil, List.cons_append, List.nil_append, List.replicate, Nat.reduceSub, beq_self_eq_true, lcOk, MT.slots, MT.slotss, List.all_cons, List.all_nil, List.contains_cons, List.contains_nil, Bool.true_or, Bool.or_true, Bool.or_false, Bool.false_or, Nat.reduceBEq, rng_len, List.length_map, it_tup, it_lst, is_tup, is_int, is_bl, is_lst, is_str, is_non, rv_tup, hx, rd_any hw.lk]
        refine .ok (.ret ?_)
        simp -dsimp only [w_int, w_bl, w_str, w_non, w_var, w_glb, w_tup, w_lst, w_bin, w_neg, w_not, w_cmp, w_chain, w_and, w_or, w_ife, w_ix, w_sl, w_slL, w_slH, w_slB, w_rev, w_call, w_blt, w_meth, w_isi, w_dsp, w_rngL, w_rngT, lcSrc, w_lc, w_es0, w_es1, w_ts0, w_ts1, w_asg, subO, w_asgSub, w_expr, w_ret, w_retN, w_ite, w_for, w_whl, w_pass, w_brk, w_cont, w_ss0, w_ss1, th_nx, th_ret, th_brk, th_cont, ob_some, br_t, br_f, qb_ok, qb_assoc, rd_s, rd_non, rd_bl, rd_int, rd_str, rd_tup, rd_lst, rd_fro, rd_dct, lookO, looks, on1, on2, intO, force, forces, forceQ, asgF, asgO, asgP, asgPs, Opd.v, ld_non, ld_bl, ld_int, ld_str, ld_tup, ld_lst, ld_fro, ld_dct, lk_non, lk_bl, lk_int, lk_str, lk_tup, lk_lst, lk_fro, lk_dct, lk_lck, clOf, finQ_ret, finQ_nx, exitQ, outsP, callP, argsP, backP,  List.getElem?_cons_zero, List.getElem?_cons_succ, List.set_cons_zero, List.set_cons_succ, Option.getD_some, Option.map_some, Option.bind_some, reduceCtorEq, ↓reduceIte, if_true, if_false, noRef, noRefs, emb, embs, tr_bl, tr_int, tr_non, tr_tup, tr_lst, bp_add, bp_sub, cp_eqI, cp_neI, cp_eqS, cp_neS, cp_lt, cp_le, cp_gt, cp_ge, cp_in, cp_notin, cp_isN, cp_isnN, isNon, mx_int, mn_int, ln_tup, ln_lst, ln_fro, tu_lst, tu_tup, li_tup, li_lst, in_bl, in_int, ix_tup', ix_lst', at_0, at_1, at_2, at_3, canP, Bool.not_true, Bool.not_false, Bool.false_eq_true, Bool.true_and, Bool.and_true, Bool.and_self, decide_true, decide_false, methO, Me.reads, kd_str', kd_tup', kd_lst', kd_dct', or_true, true_or, or_false, false_or, and_true, true_and, and_self, ne_eq, not_false_eq_true, not_true_eq_false, eq_self,  srcP, lockO, unlockO, restP, Option.join_some, lc_some, lc_t, lc_f, fs_some, wipeP, List.length_cons, List.length_nil, Nat.reduceAdd, List.map_cons, List.map_nil, List.cons_append, List.nil_append, List.replicate, Nat.reduceSub, beq_self_eq_true, lcOk, MT.slots, MT.slotss, List.all_cons, List.all_nil, List.contains_cons, List.contains_nil, Bool.true_or, Bool.or_true, Bool.or_false, Bool.false_or, Nat.reduceBEq, rng_len, List.length_map, it_tup, it_lst, is_tup, is_int, is_bl, is_lst, is_str, is_non, rv_tup, hw.lk]
        exact .ok ⟨S, w, rfl, rfl, hp, hS, hw.mono (by omega)⟩
    obtain ⟨o, ios, e, S, v', rfl, rfl, q⟩ := fin
    exact ⟨S, v', e, q⟩
end GA
end Mn

set_option autoImplicit false
set_option maxHeartbeats 1000000
/-! GAW: webs of many places (k01 to k05). -/
namespace Mn
namespace GA
open PySem L2
theorem erase_map {α β : Type} (f : α → β) : ∀ (l : List α) (k : Nat), (l.map f).eraseIdx k = (l.eraseIdx k).map f
  | [], _ => by simp
  | a :: l, 0 => by simp
  | a :: l, k + 1 => by simp [erase_map f l k]
/-! a web of many places -/
theorem mn_two {a b : Int} : bltP .min [.tup [.int a, .int b]] = some (.val (.int (if b < a then b else a))) := by
  have : PySem.W.minOf a [b] = if b < a then b else a := by
    show (if decide (b < a) = true then b else a) = _
    by_cases c : b < a <;> simp [c]
  simp only [bltP, seqsP, Option.bind_some, allIntsP, Option.map_some, this]
theorem mx_two {a b : Int} : bltP .max [.tup [.int a, .int b]] = some (.val (.int (if a < b then b else a))) := by
  have : PySem.W.maxOf a [b] = if a < b then b else a := by
    show (if decide (a < b) = true then b else a) = _
    by_cases c : a < b <;> simp [c]
  simp only [bltP, seqsP, Option.bind_some, allIntsP, Option.map_some, this]
def pairV (t : Nat × Nat) : PV := .tup [.int t.1, .int t.2]
structure Wide (X : CQ) : Prop where
  sig : X.sig "_law_wide" = some ([.io, .pl], false)
  call : ∀ T v (m : Nat), Fd T v → T + 10000 < line → m ≤ 200 → ∃ (n : Nat) (ts : List AT) (v' : PV), X.call "_law_wide" [v, .int m] = .ok (.val (webV n ts)) [v', .int m] ∧ 10 ≤ n ∧ n ≤ 60 ∧ ts.length ≤ 200 ∧ (∀ t ∈ ts, okA true n t) ∧ Fd (T + 10000) v'
def wdl : List Cls := [.io, .sh, .sh, .ow, .sh, .sh, .sh, .ow, .sh, .sh]
def okPr (n : Nat) (t : Nat × Nat) : Prop := t.1 < n ∧ t.2 < n ∧ t.1 ≠ t.2
theorem other_ne {n a r : Int} (a0 : 0 ≤ a) (an : a < n) (r0 : 0 ≤ r) (rn : r < n - 1) : 0 ≤ (a + 1 + r) % n ∧ (a + 1 + r) % n < n ∧ (a + 1 + r) % n ≠ a := by
  by_cases c : a + 1 + r < n
  · rw [Int.emod_eq_of_lt (by omega) c]; omega
  · have : (a + 1 + r) % n = a + 1 + r - n := by
      have e : a + 1 + r = (a + 1 + r - n) + n := by omega
      rw [e, Int.add_emod_right, Int.emod_eq_of_lt (by omega) (by omega)]
      omega
    omega
theorem at_end {α : Type} {l : List α} : atI l (-1) = l[l.length - 1]? := by
  cases hl : l with
  | nil => rfl
  | cons a l' =>
    unfold atI ixN
    rw [if_neg (by omega), if_pos (by simp; omega)]
    have : ((-1 : Int) + ((a :: l').length : Nat)).toNat = (a :: l').length - 1 := by simp; omega
    simp only [Option.bind_some, this]
/-- names by draws -/
theorem wide_names {X : CQ} (hx : X.cl = clOf wdl) (D : Draw X) {T : Nat} {v : PV} {m : PV} {n : Nat} (hv : Fd T v) (hT : T + 1000 < line) (hn2 : n ≤ 100) :
    Evq (evTs' X (b_x_wide.drop 1 |>.take 2) [some v, some m, some (.int n), none, none, none, none, none, none, none]) fun fl σ => fl = .nx ∧ ∃ (ks : List Nat) (u : PV) (x3 : Option PV), σ = [some u, some m, some (.int n), x3, some (.lst (natsP ks)), none, none, none, none, none] ∧ Fd (T + n) u ∧ ks.Perm (List.range n) := by
  simp only [b_x_wide, List.drop_succ_cons, List.drop_zero, List.take_succ_cons, List.take_zero]
  simp -dsimp only [w_int, w_bl, w_str, w_non, w_var, w_glb, w_tup, w_lst, w_bin, w_neg, w_not, w_cmp, w_chain, w_and, w_or, w_ife, w_ix, w_sl, w_slL, w_slH, w_slB, w_rev, w_call, w_blt, w_meth, w_isi, w_dsp, w_rngL, w_rngT, lcSrc, w_lc, w_es0, w_es1, w_ts0, w_ts1, w_asg, subO, w_asgSub, w_expr, w_ret, w_retN, w_ite, w_for, w_whl, w_pass, w_brk, w_cont, w_ss0, w_ss1, th_nx, th_ret, th_brk, th_cont, ob_some, br_t, br_f, qb_ok, qb_assoc, rd_s, rd_non, rd_bl, rd_int, rd_str, rd_tup, rd_lst, rd_fro, rd_dct, lookO, looks, on1, on2, intO, force, forces, forceQ, asgF, asgO, asgP, asgPs, Opd.v, ld_non, ld_bl, ld_int, ld_str, ld_tup, ld_lst, ld_fro, ld_dct, lk_non, lk_bl, lk_int, lk_str, lk_tup, lk_lst, lk_fro, lk_dct, lk_lck, clOf, finQ_ret, finQ_nx, exitQ, outsP, callP, argsP, backP,  List.getElem?_cons_zero, List.getElem?_cons_succ, List.set_cons_zero, List.set_cons_succ, Option.getD_some, Option.map_some, Option.bind_some, reduceCtorEq, ↓reduceIte, if_true, if_false, noRef, noRefs, emb, embs, tr_bl, tr_int, tr_non, tr_tup, tr_lst, bp_add, bp_sub, cp_eqI, cp_neI, cp_eqS, cp_neS, cp_lt, cp_le, cp_gt, cp_ge, cp_in, cp_notin, cp_isN, cp_isnN, isNon, mx_int, mn_int, ln_tup, ln_lst, ln_fro, tu_lst, tu_tup, li_tup, li_lst, in_bl, in_int, ix_tup', ix_lst', at_0, at_1, at_2, at_3, canP, Bool.not_true, Bool.not_false, Bool.false_eq_true, Bool.true_and, Bool.and_true, Bool.and_self, decide_true, decide_false, methO, Me.reads, kd_str', kd_tup', kd_lst', kd_dct', or_true, true_or, or_false, false_or, and_true, true_and, and_self, ne_eq, not_false_eq_true, not_true_eq_false, eq_self,  srcP, lockO, unlockO, restP, Option.join_some, lc_some, lc_t, lc_f, fs_some, wipeP, List.length_cons, List.length_nil, Nat.reduceAdd, List.map_cons, List.map_nil, List.cons_append, List.nil_append, List.replicate, Nat.reduceSub, beq_self_eq_true, lcOk, MT.slots, MT.slotss, List.all_cons, List.all_nil, List.contains_cons, List.contains_nil, Bool.true_or, Bool.or_true, Bool.or_false, Bool.false_or, Nat.reduceBEq, rng_len, List.length_map, it_tup, it_lst, is_tup, is_int, is_bl, is_lst, is_str, is_non, rv_tup, hx, wdl, rngP_ok (show n ≤ 1000000 by omega), it_rng' (show n ≤ 1000000 by omega), lm_le (show n ≤ 1000000 by omega)]
  rw [rng_nats]
  refine .bnd (compD_inv (fun i zs σ => ∃ (ks left : List Nat) (u : PV), zs = natsP ks ∧ σ = [some u, some m, some (.int n), some (.lst (natsP left)), none, none, none, none, none, none] ∧ Fd (T + i) u ∧ i ≤ n ∧ (ks ++ left).Perm (List.range n) ∧ left.length + i = n) ⟨[], List.range n, v, rfl, rfl, hv, by omega, by simp, by simp⟩ ?_ ?_)
  · rintro i x zs σ hi ⟨ks, left, u, rfl, rfl, hu, hin, hp, hl⟩
    have hi2 : i < n := by have := (List.getElem?_eq_some_iff.mp hi).1; simpa [natsP] using this
    have hxi : x = .int (i : Int) := by
      have := (List.getElem?_eq_some_iff.mp hi).2
      simp [natsP] at this
      exact this.symm
    subst hxi
    obtain ⟨r, w, e, r0, r1, hw⟩ := D.call _ u left.length hu (by omega) (by omega) (by omega)
    obtain ⟨k, rfl⟩ : ∃ k : Nat, r = (k : Int) := ⟨r.toNat, by omega⟩
    have hk : k < left.length := by omega
    have hll : (natsP left).length = left.length := by simp [natsP]
    have pa := pop_at (xs := natsP left) (k := k) (by rw [hll]; exact hk) (by omega)
    have ge : (natsP left)[k]'(by rw [hll]; exact hk) = .int (left[k] : Nat) := by simp [natsP]
    have ee : (natsP left).eraseIdx k = natsP (left.eraseIdx k) := by simp only [natsP]; exact erase_map _ _ _
    rw [ge, ee] at pa
    simp -dsimp only [w_int, w_bl, w_str, w_non, w_var, w_glb, w_tup, w_lst, w_bin, w_neg, w_not, w_cmp, w_chain, w_and, w_or, w_ife, w_ix, w_sl, w_slL, w_slH, w_slB, w_rev, w_call, w_blt, w_meth, w_isi, w_dsp, w_rngL, w_rngT, lcSrc, w_lc, w_es0, w_es1, w_ts0, w_ts1, w_asg, subO, w_asgSub, w_expr, w_ret, w_retN, w_ite, w_for, w_whl, w_pass, w_brk, w_cont, w_ss0, w_ss1, th_nx, th_ret, th_brk, th_cont, ob_some, br_t, br_f, qb_ok, qb_assoc, rd_s, rd_non, rd_bl, rd_int, rd_str, rd_tup, rd_lst, rd_fro, rd_dct, lookO, looks, on1, on2, intO, force, forces, forceQ, asgF, asgO, asgP, asgPs, Opd.v, ld_non, ld_bl, ld_int, ld_str, ld_tup, ld_lst, ld_fro, ld_dct, lk_non, lk_bl, lk_int, lk_str, lk_tup, lk_lst, lk_fro, lk_dct, lk_lck, clOf, finQ_ret, finQ_nx, exitQ, outsP, callP, argsP, backP,  List.getElem?_cons_zero, List.getElem?_cons_succ, List.set_cons_zero, List.set_cons_succ, Option.getD_some, Option.map_some, Option.bind_some, reduceCtorEq, ↓reduceIte, if_true, if_false, noRef, noRefs, emb, embs, tr_bl, tr_int, tr_non, tr_tup, tr_lst, bp_add, bp_sub, cp_eqI, cp_neI, cp_eqS, cp_neS, cp_lt, cp_le, cp_gt, cp_ge, cp_in, cp_notin, cp_isN, cp_isnN, isNon, mx_int, mn_int, ln_tup, ln_lst, ln_fro, tu_lst, tu_tup, li_tup, li_lst, in_bl, in_int, ix_tup', ix_lst', at_0, at_1, at_2, at_3, canP, Bool.not_true, Bool.not_false, Bool.false_eq_true, Bool.true_and, Bool.and_true, Bool.and_self, decide_true, decide_false, methO, Me.reads, kd_str', kd_tup', kd_lst', kd_dct', or_true, true_or, or_false, false_or, and_true, true_and, and_self, ne_eq, not_false_eq_true, not_true_eq_false, eq_self,  srcP, lockO, unlockO, restP, Option.join_some, lc_some, lc_t, lc_f, fs_some, wipeP, List.length_cons, List.length_nil, Nat.reduceAdd, List.map_cons, List.map_nil, List.cons_append, List.nil_append, List.replicate, Nat.reduceSub, beq_self_eq_true, lcOk, MT.slots, MT.slotss, List.all_cons, List.all_nil, List.contains_cons, List.contains_nil, Bool.true_or, Bool.or_true, Bool.or_false, Bool.false_or, Nat.reduceBEq, rng_len, List.length_map, it_tup, it_lst, is_tup, is_int, is_bl, is_lst, is_str, is_non, rv_tup, hx, wdl, D.sig, rd_any hu.lk, rd_any hw.lk, hll, e, pa]
    refine .ok ⟨ks ++ [left[k]], left.eraseIdx k, w, by simp [natsP], rfl, hw.mono (by omega), by omega, ?_, by rw [List.length_eraseIdx_of_lt hk]; omega⟩
    refine List.Perm.trans ?_ hp
    rw [List.append_assoc]
    exact List.Perm.append_left _ (erase_perm hk)
  · rintro zs σ ⟨ks, left, u, rfl, rfl, hu, hin, hp, hl⟩
    have ln : (natsP (List.range n)).length = n := by simp [natsP]
    rw [ln] at hl hu
    obtain rfl : left = [] := List.length_eq_zero_iff.mp (by omega)
    simp -dsimp only [w_int, w_bl, w_str, w_non, w_var, w_glb, w_tup, w_lst, w_bin, w_neg, w_not, w_cmp, w_chain, w_and, w_or, w_ife, w_ix, w_sl, w_slL, w_slH, w_slB, w_rev, w_call, w_blt, w_meth, w_isi, w_dsp, w_rngL, w_rngT, lcSrc, w_lc, w_es0, w_es1, w_ts0, w_ts1, w_asg, subO, w_asgSub, w_expr, w_ret, w_retN, w_ite, w_for, w_whl, w_pass, w_brk, w_cont, w_ss0, w_ss1, th_nx, th_ret, th_brk, th_cont, ob_some, br_t, br_f, qb_ok, qb_assoc, rd_s, rd_non, rd_bl, rd_int, rd_str, rd_tup, rd_lst, rd_fro, rd_dct, lookO, looks, on1, on2, intO, force, forces, forceQ, asgF, asgO, asgP, asgPs, Opd.v, ld_non, ld_bl, ld_int, ld_str, ld_tup, ld_lst, ld_fro, ld_dct, lk_non, lk_bl, lk_int, lk_str, lk_tup, lk_lst, lk_fro, lk_dct, lk_lck, clOf, finQ_ret, finQ_nx, exitQ, outsP, callP, argsP, backP,  List.getElem?_cons_zero, List.getElem?_cons_succ, List.set_cons_zero, List.set_cons_succ, Option.getD_some, Option.map_some, Option.bind_some, reduceCtorEq, ↓reduceIte, if_true, if_false, noRef, noRefs, emb, embs, tr_bl, tr_int, tr_non, tr_tup, tr_lst, bp_add, bp_sub, cp_eqI, cp_neI, cp_eqS, cp_neS, cp_lt, cp_le, cp_gt, cp_ge, cp_in, cp_notin, cp_isN, cp_isnN, isNon, mx_int, mn_int, ln_tup, ln_lst, ln_fro, tu_lst, tu_tup, li_tup, li_lst, in_bl, in_int, ix_tup', ix_lst', at_0, at_1, at_2, at_3, canP, Bool.not_true, Bool.not_false, Bool.false_eq_true, Bool.true_and, Bool.and_true, Bool.and_self, decide_true, decide_false, methO, Me.reads, kd_str', kd_tup', kd_lst', kd_dct', or_true, true_or, or_false, false_or, and_true, true_and, and_self, ne_eq, not_false_eq_true, not_true_eq_false, eq_self,  srcP, lockO, unlockO, restP, Option.join_some, lc_some, lc_t, lc_f, fs_some, wipeP, List.length_cons, List.length_nil, Nat.reduceAdd, List.map_cons, List.map_nil, List.cons_append, List.nil_append, List.replicate, Nat.reduceSub, beq_self_eq_true, lcOk, MT.slots, MT.slotss, List.all_cons, List.all_nil, List.contains_cons, List.contains_nil, Bool.true_or, Bool.or_true, Bool.or_false, Bool.false_or, Nat.reduceBEq, rng_len, List.length_map, it_tup, it_lst, is_tup, is_int, is_bl, is_lst, is_str, is_non, rv_tup, hx, wdl]
    exact .ok ⟨rfl, ks, u, _, rfl, hu, by simpa using hp⟩
/-- pairs of neighbours -/
theorem wide_pairs {X : CQ} (hx : X.cl = clOf wdl) {u m x3 : Option PV} {n way : Nat} {ks : List Nat} (hn : 10 ≤ n) (hn2 : n ≤ 100) (hw : way ≤ 2) (hp : ks.Perm (List.range n)) :
    Evq (evTs' X (b_x_wide.drop 4 |>.take 1) [u, m, some (.int n), x3, some (.lst (natsP ks)), none, some (.int way), none, none, none]) fun fl σ => fl = .nx ∧ ∃ (ps : List (Nat × Nat)), σ = [u, m, some (.int n), x3, some (.lst (natsP ks)), none, some (.int way), some (.lst (ps.map pairV)), none, none] ∧ ps.length ≤ 100 ∧ ∀ t ∈ ps, okPr n t := by
  simp only [b_x_wide, List.drop_succ_cons, List.drop_zero, List.take_succ_cons, List.take_zero]
  have hl : ks.length = n := by simpa using hp.length_eq
  have hnd : ks.Nodup := hp.nodup_iff.mpr List.nodup_range
  have hlt : ∀ k ∈ ks, k < n := fun k hk => by simpa using hp.mem_iff.mp hk
  simp -dsimp only [w_int, w_bl, w_str, w_non, w_var, w_glb, w_tup, w_lst, w_bin, w_neg, w_not, w_cmp, w_chain, w_and, w_or, w_ife, w_ix, w_sl, w_slL, w_slH, w_slB, w_rev, w_call, w_blt, w_meth, w_isi, w_dsp, w_rngL, w_rngT, lcSrc, w_lc, w_es0, w_es1, w_ts0, w_ts1, w_asg, subO, w_asgSub, w_expr, w_ret, w_retN, w_ite, w_for, w_whl, w_pass, w_brk, w_cont, w_ss0, w_ss1, th_nx, th_ret, th_brk, th_cont, ob_some, br_t, br_f, qb_ok, qb_assoc, rd_s, rd_non, rd_bl, rd_int, rd_str, rd_tup, rd_lst, rd_fro, rd_dct, lookO, looks, on1, on2, intO, force, forces, forceQ, asgF, asgO, asgP, asgPs, Opd.v, ld_non, ld_bl, ld_int, ld_str, ld_tup, ld_lst, ld_fro, ld_dct, lk_non, lk_bl, lk_int, lk_str, lk_tup, lk_lst, lk_fro, lk_dct, lk_lck, clOf, finQ_ret, finQ_nx, exitQ, outsP, callP, argsP, backP,  List.getElem?_cons_zero, List.getElem?_cons_succ, List.set_cons_zero, List.set_cons_succ, Option.getD_some, Option.map_some, Option.bind_some, reduceCtorEq, ↓reduceIte, if_true, if_false, noRef, noRefs, emb, embs, tr_bl, tr_int, tr_non, tr_tup, tr_lst, bp_add, bp_sub, cp_eqI, cp_neI, cp_eqS, cp_neS, cp_lt, cp_le, cp_gt, cp_ge, cp_in, cp_notin, cp_isN, cp_isnN, isNon, mx_int, mn_int, ln_tup, ln_lst, ln_fro, tu_lst, tu_tup, li_tup, li_lst, in_bl, in_int, ix_tup', ix_lst', at_0, at_1, at_2, at_3, canP, Bool.not_true, Bool.not_false, Bool.false_eq_true, Bool.true_and, Bool.and_true, Bool.and_self, decide_true, decide_false, methO, Me.reads, kd_str', kd_tup', kd_lst', kd_dct', or_true, true_or, or_false, false_or, and_true, true_and, and_self, ne_eq, not_false_eq_true, not_true_eq_false, eq_self,  srcP, lockO, unlockO, restP, Option.join_some, lc_some, lc_t, lc_f, fs_some, wipeP, List.length_cons, List.length_nil, Nat.reduceAdd, List.map_cons, List.map_nil, List.cons_append, List.nil_append, List.replicate, Nat.reduceSub, beq_self_eq_true, lcOk, MT.slots, MT.slotss, List.all_cons, List.all_nil, List.contains_cons, List.contains_nil, Bool.true_or, Bool.or_true, Bool.or_false, Bool.false_or, Nat.reduceBEq, rng_len, List.length_map, it_tup, it_lst, is_tup, is_int, is_bl, is_lst, is_str, is_non, rv_tup, hx, wdl, it_rng2' (show n ≤ 1000000 by omega) (show way ≤ 1000000 by omega), lm_le (show n - way ≤ 1000000 by omega)]
  refine .bnd (compD_inv (fun i zs σ => ∃ (ps : List (Nat × Nat)), zs = ps.map pairV ∧ ps.length = i ∧ i ≤ n - way ∧ σ = [u, m, some (.int n), x3, some (.lst (natsP ks)), none, some (.int way), none, none, none] ∧ ∀ t ∈ ps, okPr n t) ⟨[], rfl, rfl, by omega, rfl, by simp⟩ ?_ ?_)
  · rintro i x zs σ hi ⟨ps, rfl, hpl, hin, rfl, ok⟩
    obtain ⟨rfl, hi2⟩ := rng_at hi
    have z0 : (way : Int) + (i : Int) = ((way + i : Nat) : Int) := by omega
    have hj : way + i < ks.length := by omega
    have a1 : atI (natsP ks) ((way + i : Nat) : Int) = some (.int ((ks[way + i] : Nat) : Int)) := by
      rw [at_nat, natsP, List.getElem?_map, List.getElem?_eq_getElem hj]; rfl
    obtain ⟨j, hj2, hne, a2⟩ : ∃ j : Nat, ∃ hj2 : j < ks.length, j ≠ way + i ∧ atI (natsP ks) (((way + i : Nat) : Int) - 1) = some (.int ((ks[j] : Nat) : Int)) := by
      by_cases c : way + i = 0
      · refine ⟨ks.length - 1, by omega, by omega, ?_⟩
        have e : (((way + i : Nat) : Int) - 1) = -1 := by omega
        rw [e, at_end, natsP, List.getElem?_map, List.length_map, List.getElem?_eq_getElem (by omega)]; rfl
      · refine ⟨way + i - 1, by omega, by omega, ?_⟩
        have e : (((way + i : Nat) : Int) - 1) = ((way + i - 1 : Nat) : Int) := by omega
        rw [e, at_nat, natsP, List.getElem?_map, List.getElem?_eq_getElem (by omega)]; rfl
    simp -dsimp only [w_int, w_bl, w_str, w_non, w_var, w_glb, w_tup, w_lst, w_bin, w_neg, w_not, w_cmp, w_chain, w_and, w_or, w_ife, w_ix, w_sl, w_slL, w_slH, w_slB, w_rev, w_call, w_blt, w_meth, w_isi, w_dsp, w_rngL, w_rngT, lcSrc, w_lc, w_es0, w_es1, w_ts0, w_ts1, w_asg, subO, w_asgSub, w_expr, w_ret, w_retN, w_ite, w_for, w_whl, w_pass, w_brk, w_cont, w_ss0, w_ss1, th_nx, th_ret, th_brk, th_cont, ob_some, br_t, br_f, qb_ok, qb_assoc, rd_s, rd_non, rd_bl, rd_int, rd_str, rd_tup, rd_lst, rd_fro, rd_dct, lookO, looks, on1, on2, intO, force, forces, forceQ, asgF, asgO, asgP, asgPs, Opd.v, ld_non, ld_bl, ld_int, ld_str, ld_tup, ld_lst, ld_fro, ld_dct, lk_non, lk_bl, lk_int, lk_str, lk_tup, lk_lst, lk_fro, lk_dct, lk_lck, clOf, finQ_ret, finQ_nx, exitQ, outsP, callP, argsP, backP,  List.getElem?_cons_zero, List.getElem?_cons_succ, List.set_cons_zero, List.set_cons_succ, Option.getD_some, Option.map_some, Option.bind_some, reduceCtorEq, ↓reduceIte, if_true, if_false, noRef, noRefs, emb, embs, tr_bl, tr_int, tr_non, tr_tup, tr_lst, bp_add, bp_sub, cp_eqI, cp_neI, cp_eqS, cp_neS, cp_lt, cp_le, cp_gt, cp_ge, cp_in, cp_notin, cp_isN, cp_isnN, isNon, mx_int, mn_int, ln_tup, ln_lst, ln_fro, tu_lst, tu_tup, li_tup, li_lst, in_bl, in_int, ix_tup', ix_lst', at_0, at_1, at_2, at_3, canP, Bool.not_true, Bool.not_false, Bool.false_eq_true, Bool.true_and, Bool.and_true, Bool.and_self, decide_true, decide_false, methO, Me.reads, kd_str', kd_tup', kd_lst', kd_dct', or_true, true_or, or_false, false_or, and_true, true_and, and_self, ne_eq, not_false_eq_true, not_true_eq_false, eq_self,  srcP, lockO, unlockO, restP, Option.join_some, lc_some, lc_t, lc_f, fs_some, wipeP, List.length_cons, List.length_nil, Nat.reduceAdd, List.map_cons, List.map_nil, List.cons_append, List.nil_append, List.replicate, Nat.reduceSub, beq_self_eq_true, lcOk, MT.slots, MT.slotss, List.all_cons, List.all_nil, List.contains_cons, List.contains_nil, Bool.true_or, Bool.or_true, Bool.or_false, Bool.false_or, Nat.reduceBEq, rng_len, List.length_map, it_tup, it_lst, is_tup, is_int, is_bl, is_lst, is_str, is_non, rv_tup, hx, wdl, z0, a1, a2]
    refine .ok ⟨ps ++ [(ks[j], ks[way + i])], by simp [pairV], by simp [hpl], by omega, rfl, fun t ht => ?_⟩
    rcases List.mem_append.mp ht with q | q
    · exact ok t q
    · simp only [List.mem_singleton] at q
      subst q
      exact ⟨hlt _ (List.getElem_mem _), hlt _ (List.getElem_mem _), fun z => hne (nd_ne hnd _ _ z)⟩
  · rintro zs σ ⟨ps, rfl, hpl, hin, rfl, ok⟩
    rw [rng_len] at hin hpl
    simp -dsimp only [w_int, w_bl, w_str, w_non, w_var, w_glb, w_tup, w_lst, w_bin, w_neg, w_not, w_cmp, w_chain, w_and, w_or, w_ife, w_ix, w_sl, w_slL, w_slH, w_slB, w_rev, w_call, w_blt, w_meth, w_isi, w_dsp, w_rngL, w_rngT, lcSrc, w_lc, w_es0, w_es1, w_ts0, w_ts1, w_asg, subO, w_asgSub, w_expr, w_ret, w_retN, w_ite, w_for, w_whl, w_pass, w_brk, w_cont, w_ss0, w_ss1, th_nx, th_ret, th_brk, th_cont, ob_some, br_t, br_f, qb_ok, qb_assoc, rd_s, rd_non, rd_bl, rd_int, rd_str, rd_tup, rd_lst, rd_fro, rd_dct, lookO, looks, on1, on2, intO, force, forces, forceQ, asgF, asgO, asgP, asgPs, Opd.v, ld_non, ld_bl, ld_int, ld_str, ld_tup, ld_lst, ld_fro, ld_dct, lk_non, lk_bl, lk_int, lk_str, lk_tup, lk_lst, lk_fro, lk_dct, lk_lck, clOf, finQ_ret, finQ_nx, exitQ, outsP, callP, argsP, backP,  List.getElem?_cons_zero, List.getElem?_cons_succ, List.set_cons_zero, List.set_cons_succ, Option.getD_some, Option.map_some, Option.bind_some, reduceCtorEq, ↓reduceIte, if_true, if_false, noRef, noRefs, emb, embs, tr_bl, tr_int, tr_non, tr_tup, tr_lst, bp_add, bp_sub, cp_eqI, cp_neI, cp_eqS, cp_neS, cp_lt, cp_le, cp_gt, cp_ge, cp_in, cp_notin, cp_isN, cp_isnN, isNon, mx_int, mn_int, ln_tup, ln_lst, ln_fro, tu_lst, tu_tup, li_tup, li_lst, in_bl, in_int, ix_tup', ix_lst', at_0, at_1, at_2, at_3, canP, Bool.not_true, Bool.not_false, Bool.false_eq_true, Bool.true_and, Bool.and_true, Bool.and_self, decide_true, decide_false, methO, Me.reads, kd_str', kd_tup', kd_lst', kd_dct', or_true, true_or, or_false, false_or, and_true, true_and, and_self, ne_eq, not_false_eq_true, not_true_eq_false, eq_self,  srcP, lockO, unlockO, restP, Option.join_some, lc_some, lc_t, lc_f, fs_some, wipeP, List.length_cons, List.length_nil, Nat.reduceAdd, List.map_cons, List.map_nil, List.cons_append, List.nil_append, List.replicate, Nat.reduceSub, beq_self_eq_true, lcOk, MT.slots, MT.slotss, List.all_cons, List.all_nil, List.contains_cons, List.contains_nil, Bool.true_or, Bool.or_true, Bool.or_false, Bool.false_or, Nat.reduceBEq, rng_len, List.length_map, it_tup, it_lst, is_tup, is_int, is_bl, is_lst, is_str, is_non, rv_tup, hx, wdl]
    exact .ok ⟨rfl, ps, rfl, by omega, ok⟩
/-- in place of them, pairs by draws -/
theorem wide_drawn {X : CQ} (hx : X.cl = clOf wdl) (D : Draw X) {T : Nat} {u : PV} {m : Nat} {x3 : Option PV} {n way : Nat} {ks : PV} {ps : List (Nat × Nat)} (hv : Fd T u) (hT : T + 1000 < line) (hn : 10 ≤ n) (hn2 : n ≤ 100) (hm : m ≤ 200) (hl : ps.length ≤ 100) (ok : ∀ t ∈ ps, okPr n t) :
    Evq (evTs' X (b_x_wide.drop 5 |>.take 1) [some u, some (.int m), some (.int n), x3, some ks, none, some (.int way), some (.lst (ps.map pairV)), none, none]) fun fl σ => fl = .nx ∧ ∃ (ps : List (Nat × Nat)) (u : PV) (x5 x8 : Option PV), σ = [some u, some (.int m), some (.int n), x3, some ks, x5, some (.int way), some (.lst (ps.map pairV)), x8, none] ∧ Fd (T + 500) u ∧ ps.length ≤ 200 ∧ ∀ t ∈ ps, okPr n t := by
  simp only [b_x_wide, List.drop_succ_cons, List.drop_zero, List.take_succ_cons, List.take_zero]
  by_cases c : (way : Int) = 2
  · obtain ⟨r, v1, e, r0, r1, hv1⟩ := D.call T u ((m : Int) + 1) hv (by omega) (by omega) (by omega)
    obtain ⟨k, rfl⟩ : ∃ j : Nat, r = (j : Int) := ⟨r.toNat, by omega⟩
    simp -dsimp only [w_int, w_bl, w_str, w_non, w_var, w_glb, w_tup, w_lst, w_bin, w_neg, w_not, w_cmp, w_chain, w_and, w_or, w_ife, w_ix, w_sl, w_slL, w_slH, w_slB, w_rev, w_call, w_blt, w_meth, w_isi, w_dsp, w_rngL, w_rngT, lcSrc, w_lc, w_es0, w_es1, w_ts0, w_ts1, w_asg, subO, w_asgSub, w_expr, w_ret, w_retN, w_ite, w_for, w_whl, w_pass, w_brk, w_cont, w_ss0, w_ss1, th_nx, th_ret, th_brk, th_cont, ob_some, br_t, br_f, qb_ok, qb_assoc, rd_s, rd_non, rd_bl, rd_int, rd_str, rd_tup, rd_lst, rd_fro, rd_dct, lookO, looks, on1, on2, intO, force, forces, forceQ, asgF, asgO, asgP, asgPs, Opd.v, ld_non, ld_bl, ld_int, ld_str, ld_tup, ld_lst, ld_fro, ld_dct, lk_non, lk_bl, lk_int, lk_str, lk_tup, lk_lst, lk_fro, lk_dct, lk_lck, clOf, finQ_ret, finQ_nx, exitQ, outsP, callP, argsP, backP,  List.getElem?_cons_zero, List.getElem?_cons_succ, List.set_cons_zero, List.set_cons_succ, Option.getD_some, Option.map_some, Option.bind_some, reduceCtorEq, ↓reduceIte, if_true, if_false, noRef, noRefs, emb, embs, tr_bl, tr_int, tr_non, tr_tup, tr_lst, bp_add, bp_sub, cp_eqI, cp_neI, cp_eqS, cp_neS, cp_lt, cp_le, cp_gt, cp_ge, cp_in, cp_notin, cp_isN, cp_isnN, isNon, mx_int, mn_int, ln_tup, ln_lst, ln_fro, tu_lst, tu_tup, li_tup, li_lst, in_bl, in_int, ix_tup', ix_lst', at_0, at_1, at_2, at_3, canP, Bool.not_true, Bool.not_false, Bool.false_eq_true, Bool.true_and, Bool.and_true, Bool.and_self, decide_true, decide_false, methO, Me.reads, kd_str', kd_tup', kd_lst', kd_dct', or_true, true_or, or_false, false_or, and_true, true_and, and_self, ne_eq, not_false_eq_true, not_true_eq_false, eq_self,  srcP, lockO, unlockO, restP, Option.join_some, lc_some, lc_t, lc_f, fs_some, wipeP, List.length_cons, List.length_nil, Nat.reduceAdd, List.map_cons, List.map_nil, List.cons_append, List.nil_append, List.replicate, Nat.reduceSub, beq_self_eq_true, lcOk, MT.slots, MT.slotss, List.all_cons, List.all_nil, List.contains_cons, List.contains_nil, Bool.true_or, Bool.or_true, Bool.or_false, Bool.false_or, Nat.reduceBEq, rng_len, List.length_map, it_tup, it_lst, is_tup, is_int, is_bl, is_lst, is_str, is_non, rv_tup, hx, wdl, c, D.sig, rd_any hv.lk, rd_any hv1.lk, e, it_rng' (show k ≤ 1000000 by omega)]
    refine .bnd ((forD_inv (fun i σ => ∃ (ps : List (Nat × Nat)) (w : PV) (x5 x8 : Option PV), σ = [some w, some (.int m), some (.int n), x3, some ks, x5, some (.int way), some (.lst (ps.map pairV)), x8, none] ∧ Fd (T + 1 + 2 * i) w ∧ ps.length = i ∧ i ≤ k ∧ ∀ t ∈ ps, okPr n t)
      ⟨[], v1, none, none, by simp [c], hv1, rfl, by omega, by simp⟩ ?_).imp ?_)
    · rintro i x σ hi ⟨ps, w, x5, x8, rfl, hw, hpl, hik, ok⟩
      obtain ⟨rfl, hi2⟩ := rng_at hi
      obtain ⟨a, w1, e1, a0, a1, hw1⟩ := D.call _ w (n : Int) hw (by omega) (by omega) (by omega)
      obtain ⟨b, w2, e2, b0, b1, hw2⟩ := D.call _ w1 ((n : Int) - 1) hw1 (by omega) (by omega) (by omega)
      obtain ⟨q0, q1, q2⟩ := other_ne a0 a1 b0 b1
      generalize hq : (a + 1 + b) % (n : Int) = q at q0 q1 q2
      have em : binP .Mod (.int (a + 1 + b)) (.int (n : Int)) = some (.val (.int q)) := by rw [bp_mod (by omega), hq]
      obtain ⟨a, rfl⟩ : ∃ j : Nat, a = (j : Int) := ⟨a.toNat, by omega⟩
      obtain ⟨q, rfl⟩ : ∃ j : Nat, q = (j : Int) := ⟨q.toNat, by omega⟩
      have al : (ps.map pairV).length < 1000000 := by simp; omega
      simp -dsimp only [w_int, w_bl, w_str, w_non, w_var, w_glb, w_tup, w_lst, w_bin, w_neg, w_not, w_cmp, w_chain, w_and, w_or, w_ife, w_ix, w_sl, w_slL, w_slH, w_slB, w_rev, w_call, w_blt, w_meth, w_isi, w_dsp, w_rngL, w_rngT, lcSrc, w_lc, w_es0, w_es1, w_ts0, w_ts1, w_asg, subO, w_asgSub, w_expr, w_ret, w_retN, w_ite, w_for, w_whl, w_pass, w_brk, w_cont, w_ss0, w_ss1, th_nx, th_ret, th_brk, th_cont, ob_some, br_t, br_f, qb_ok, qb_assoc, rd_s, rd_non, rd_bl, rd_int, rd_str, rd_tup, rd_lst, rd_fro, rd_dct, lookO, looks, on1, on2, intO, force, forces, forceQ, asgF, asgO, asgP, asgPs, Opd.v, ld_non, ld_bl, ld_int, ld_str, ld_tup, ld_lst, ld_fro, ld_dct, lk_non, lk_bl, lk_int, lk_str, lk_tup, lk_lst, lk_fro, lk_dct, lk_lck, clOf, finQ_ret, finQ_nx, exitQ, outsP, callP, argsP, backP,  List.getElem?_cons_zero, List.getElem?_cons_succ, List.set_cons_zero, List.set_cons_succ, Option.getD_some, Option.map_some, Option.bind_some, reduceCtorEq, ↓reduceIte, if_true, if_false, noRef, noRefs, emb, embs, tr_bl, tr_int, tr_non, tr_tup, tr_lst, bp_add, bp_sub, cp_eqI, cp_neI, cp_eqS, cp_neS, cp_lt, cp_le, cp_gt, cp_ge, cp_in, cp_notin, cp_isN, cp_isnN, isNon, mx_int, mn_int, ln_tup, ln_lst, ln_fro, tu_lst, tu_tup, li_tup, li_lst, in_bl, in_int, ix_tup', ix_lst', at_0, at_1, at_2, at_3, canP, Bool.not_true, Bool.not_false, Bool.false_eq_true, Bool.true_and, Bool.and_true, Bool.and_self, decide_true, decide_false, methO, Me.reads, kd_str', kd_tup', kd_lst', kd_dct', or_true, true_or, or_false, false_or, and_true, true_and, and_self, ne_eq, not_false_eq_true, not_true_eq_false, eq_self,  srcP, lockO, unlockO, restP, Option.join_some, lc_some, lc_t, lc_f, fs_some, wipeP, List.length_cons, List.length_nil, Nat.reduceAdd, List.map_cons, List.map_nil, List.cons_append, List.nil_append, List.replicate, Nat.reduceSub, beq_self_eq_true, lcOk, MT.slots, MT.slotss, List.all_cons, List.all_nil, List.contains_cons, List.contains_nil, Bool.true_or, Bool.or_true, Bool.or_false, Bool.false_or, Nat.reduceBEq, rng_len, List.length_map, it_tup, it_lst, is_tup, is_int, is_bl, is_lst, is_str, is_non, rv_tup, hx, wdl, D.sig, rd_any hw.lk, rd_any hw1.lk, rd_any hw2.lk, e1, e2, em, app_at al]
      refine .ok ⟨.inl rfl, ps ++ [(a, q)], w2, some (.int (0 + i)), some (.int a), by simp [pairV], hw2.mono (by omega), by simp [hpl], by omega, fun t ht => ?_⟩
      rcases List.mem_append.mp ht with z | z
      · exact ok t z
      · simp only [List.mem_singleton] at z
        subst z
        exact ⟨by dsimp only; omega, by dsimp only; omega, by dsimp only; omega⟩
    · rintro fl σ ⟨rfl, ps, w, x5, x8, rfl, hw, hpl, hik, ok⟩
      rw [rng_len] at hpl hw
      simp -dsimp only [w_int, w_bl, w_str, w_non, w_var, w_glb, w_tup, w_lst, w_bin, w_neg, w_not, w_cmp, w_chain, w_and, w_or, w_ife, w_ix, w_sl, w_slL, w_slH, w_slB, w_rev, w_call, w_blt, w_meth, w_isi, w_dsp, w_rngL, w_rngT, lcSrc, w_lc, w_es0, w_es1, w_ts0, w_ts1, w_asg, subO, w_asgSub, w_expr, w_ret, w_retN, w_ite, w_for, w_whl, w_pass, w_brk, w_cont, w_ss0, w_ss1, th_nx, th_ret, th_brk, th_cont, ob_some, br_t, br_f, qb_ok, qb_assoc, rd_s, rd_non, rd_bl, rd_int, rd_str, rd_tup, rd_lst, rd_fro, rd_dct, lookO, looks, on1, on2, intO, force, forces, forceQ, asgF, asgO, asgP, asgPs, Opd.v, ld_non, ld_bl, ld_int, ld_str, ld_tup, ld_lst, ld_fro, ld_dct, lk_non, lk_bl, lk_int, lk_str, lk_tup, lk_lst, lk_fro, lk_dct, lk_lck, clOf, finQ_ret, finQ_nx, exitQ, outsP, callP, argsP, backP,  List.getElem?_cons_zero, List.getElem?_cons_succ, List.set_cons_zero, List.set_cons_succ, Option.getD_some, Option.map_some, Option.bind_some, reduceCtorEq, ↓reduceIte, if_true, if_false, noRef, noRefs, emb, embs, tr_bl, tr_int, tr_non, tr_tup, tr_lst, bp_add, bp_sub, cp_eqI, cp_neI, cp_eqS, cp_neS, cp_lt, cp_le, cp_gt, cp_ge, cp_in, cp_notin, cp_isN, cp_isnN, isNon, mx_int, mn_int, ln_tup, ln_lst, ln_fro, tu_lst, tu_tup, li_tup, li_lst, in_bl, in_int, ix_tup', ix_lst', at_0, at_1, at_2, at_3, canP, Bool.not_true, Bool.not_false, Bool.false_eq_true, Bool.true_and, Bool.and_true, Bool.and_self, decide_true, decide_false, methO, Me.reads, kd_str', kd_tup', kd_lst', kd_dct', or_true, true_or, or_false, false_or, and_true, true_and, and_self, ne_eq, not_false_eq_true, not_true_eq_false, eq_self,  srcP, lockO, unlockO, restP, Option.join_some, lc_some, lc_t, lc_f, fs_some, wipeP, List.length_cons, List.length_nil, Nat.reduceAdd, List.map_cons, List.map_nil, List.cons_append, List.nil_append, List.replicate, Nat.reduceSub, beq_self_eq_true, lcOk, MT.slots, MT.slotss, List.all_cons, List.all_nil, List.contains_cons, List.contains_nil, Bool.true_or, Bool.or_true, Bool.or_false, Bool.false_or, Nat.reduceBEq, rng_len, List.length_map, it_tup, it_lst, is_tup, is_int, is_bl, is_lst, is_str, is_non, rv_tup, hx, wdl]
      exact .ok ⟨rfl, ps, w, x5, x8, by rw [c], hw.mono (by omega), by omega, ok⟩
  · simp -dsimp only [w_int, w_bl, w_str, w_non, w_var, w_glb, w_tup, w_lst, w_bin, w_neg, w_not, w_cmp, w_chain, w_and, w_or, w_ife, w_ix, w_sl, w_slL, w_slH, w_slB, w_rev, w_call, w_blt, w_meth, w_isi, w_dsp, w_rngL, w_rngT, lcSrc, w_lc, w_es0, w_es1, w_ts0, w_ts1, w_asg, subO, w_asgSub, w_expr, w_ret, w_retN, w_ite, w_for, w_whl, w_pass, w_brk, w_cont, w_ss0, w_ss1, th_nx, th_ret, th_brk, th_cont, ob_some, br_t, br_f, qb_ok, qb_assoc, rd_s, rd_non, rd_bl, rd_int, rd_str, rd_tup, rd_lst, rd_fro, rd_dct, lookO, looks, on1, on2, intO, force, forces, forceQ, asgF, asgO, asgP, asgPs, Opd.v, ld_non, ld_bl, ld_int, ld_str, ld_tup, ld_lst, ld_fro, ld_dct, lk_non, lk_bl, lk_int, lk_str, lk_tup, lk_lst, lk_fro, lk_dct, lk_lck, clOf, finQ_ret, finQ_nx, exitQ, outsP, callP, argsP, backP,  List.getElem?_cons_zero, List.getElem?_cons_succ, List.set_cons_zero, List.set_cons_succ, Option.getD_some, Option.map_some, Option.bind_some, reduceCtorEq, ↓reduceIte, if_true, if_false, noRef, noRefs, emb, embs, tr_bl, tr_int, tr_non, tr_tup, tr_lst, bp_add, bp_sub, cp_eqI, cp_neI, cp_eqS, cp_neS, cp_lt, cp_le, cp_gt, cp_ge, cp_in, cp_notin, cp_isN, cp_isnN, isNon, mx_int, mn_int, ln_tup, ln_lst, ln_fro, tu_lst, tu_tup, li_tup, li_lst, in_bl, in_int, ix_tup', ix_lst', at_0, at_1, at_2, at_3, canP, Bool.not_true, Bool.not_false, Bool.false_eq_true, Bool.true_and, Bool.and_true, Bool.and_self, decide_true, decide_false, methO, Me.reads, kd_str', kd_tup', kd_lst', kd_dct', or_true, true_or, or_false, false_or, and_true, true_and, and_self, ne_eq, not_false_eq_true, not_true_eq_false, eq_self,  srcP, lockO, unlockO, restP, Option.join_some, lc_some, lc_t, lc_f, fs_some, wipeP, List.length_cons, List.length_nil, Nat.reduceAdd, List.map_cons, List.map_nil, List.cons_append, List.nil_append, List.replicate, Nat.reduceSub, beq_self_eq_true, lcOk, MT.slots, MT.slotss, List.all_cons, List.all_nil, List.contains_cons, List.contains_nil, Bool.true_or, Bool.or_true, Bool.or_false, Bool.false_or, Nat.reduceBEq, rng_len, List.length_map, it_tup, it_lst, is_tup, is_int, is_bl, is_lst, is_str, is_non, rv_tup, hx, wdl, beq_eq_false_iff_ne.mpr c]
    exact .ok ⟨rfl, ps, u, _, _, rfl, hv.mono (by omega), by omega, ok⟩
theorem wide_ok {Γ : Str → Option FP} {gl : Str → Option MV} {W d : Nat} {c : Nat → Cls} (g : Γ "_law_wide" = some p_x_wide) (D : ∀ c, Draw ⟨runP Γ gl W d, sigP Γ, c, gl, W⟩) (P : ∀ c, Price ⟨runP Γ gl W d, sigP Γ, c, gl, W⟩) : Wide ⟨runP Γ gl W (d + 1), sigP Γ, c, gl, W⟩ := by
  refine ⟨sig_eq g, fun T v m hv hT hm => ?_⟩
  dsimp only
  rw [run_eq g rfl rfl]
  generalize hX : (⟨runP Γ gl W d, sigP Γ, clOf [.io, .sh, .sh, .ow, .sh, .sh, .sh, .ow, .sh, .sh], gl, W⟩ : CQ) = X
  have hx : X.cl = clOf wdl := by rw [← hX]; rfl
  have D : Draw X := by rw [← hX]; exact D _
  have P : Price X := by rw [← hX]; exact P _
  obtain ⟨r, u, e, r0, r1, hu⟩ := D.call T v 51 hv (by omega) (by omega) (by omega)
  obtain ⟨s, u2, e2, s0, s1, hu2⟩ := D.call _ u 4 hu (by omega) (by omega) (by omega)
  obtain ⟨n, hn, n1, n2⟩ : ∃ n : Nat, atI [PV.int 60, PV.int 10, PV.int 11, PV.int (10 + r)] s = some (.int (n : Int)) ∧ 10 ≤ n ∧ n ≤ 60 := by
    have : s = 0 ∨ s = 1 ∨ s = 2 ∨ s = 3 := by omega
    rcases this with rfl | rfl | rfl | rfl
    · exact ⟨60, rfl, by decide, by decide⟩
    · exact ⟨10, rfl, by decide, by decide⟩
    · exact ⟨11, rfl, by decide, by decide⟩
    · exact ⟨(10 + r).toNat, by rw [show (((10 + r).toNat : Nat) : Int) = 10 + r by omega]; rfl, by omega, by omega⟩
  have fin : Evo (finQ [.io, .pl] false [v, .int m] (evTs' X b_x_wide [some v, some (.int m), none, none, none, none, none, none, none, none])) fun o ios => ∃ (n : Nat) (ts : List AT) (v' : PV), o = .val (webV n ts) ∧ ios = [v', .int m] ∧ 10 ≤ n ∧ n ≤ 60 ∧ ts.length ≤ 200 ∧ (∀ t ∈ ts, okA true n t) ∧ Fd (T + 10000) v' := by
    refine finQ_ev ?_
    rw [tk 1, show b_x_wide.take 1 = [.asg (.nm 2) (.ix (.lst [.c (.int 60), .c (.int 10), .c (.int 11), .bin .Add (.c (.int 10)) (.call "_law_draw" [.var 0, .c (.int 51)])]) (.call "_law_draw" [.var 0, .c (.int 4)]))] from rfl]
    simp -dsimp only [w_int, w_bl, w_str, w_non, w_var, w_glb, w_tup, w_lst, w_bin, w_neg, w_not, w_cmp, w_chain, w_and, w_or, w_ife, w_ix, w_sl, w_slL, w_slH, w_slB, w_rev, w_call, w_blt, w_meth, w_isi, w_dsp, w_rngL, w_rngT, lcSrc, w_lc, w_es0, w_es1, w_ts0, w_ts1, w_asg, subO, w_asgSub, w_expr, w_ret, w_retN, w_ite, w_for, w_whl, w_pass, w_brk, w_cont, w_ss0, w_ss1, th_nx, th_ret, th_brk, th_cont, ob_some, br_t, br_f, qb_ok, qb_assoc, rd_s, rd_non, rd_bl, rd_int, rd_str, rd_tup, rd_lst, rd_fro, rd_dct, lookO, looks, on1, on2, intO, force, forces, forceQ, asgF, asgO, asgP, asgPs, Opd.v, ld_non, ld_bl, ld_int, ld_str, ld_tup, ld_lst, ld_fro, ld_dct, lk_non, lk_bl, lk_int, lk_str, lk_tup, lk_lst, lk_fro, lk_dct, lk_lck, clOf, finQ_ret, finQ_nx, exitQ, outsP, callP, argsP, backP,  List.getElem?_cons_zero, List.getElem?_cons_succ, List.set_cons_zero, List.set_cons_succ, Option.getD_some, Option.map_some, Option.bind_some, reduceCtorEq, ↓reduceIte, if_true, if_false, noRef, noRefs, emb, embs, tr_bl, tr_int, tr_non, tr_tup, tr_lst, bp_add, bp_sub, cp_eqI, cp_neI, cp_eqS, cp_neS, cp_lt, cp_le, cp_gt, cp_ge, cp_in, cp_notin, cp_isN, cp_isnN, isNon, mx_int, mn_int, ln_tup, ln_lst, ln_fro, tu_lst, tu_tup, li_tup, li_lst, in_bl, in_int, ix_tup', ix_lst', at_0, at_1, at_2, at_3, canP, Bool.not_true, Bool.not_false, Bool.false_eq_true, Bool.true_and, Bool.and_true, Bool.and_self, decide_true, decide_false, methO, Me.reads, kd_str', kd_tup', kd_lst', kd_dct', or_true, true_or, or_false, false_or, and_true, true_and, and_self, ne_eq, not_false_eq_true, not_true_eq_false, eq_self,  srcP, lockO, unlockO, restP, Option.join_some, lc_some, lc_t, lc_f, fs_some, wipeP, List.length_cons, List.length_nil, Nat.reduceAdd, List.map_cons, List.map_nil, List.cons_append, List.nil_append, List.replicate, Nat.reduceSub, beq_self_eq_true, lcOk, MT.slots, MT.slotss, List.all_cons, List.all_nil, List.contains_cons, List.contains_nil, Bool.true_or, Bool.or_true, Bool.or_false, Bool.false_or, Nat.reduceBEq, rng_len, List.length_map, it_tup, it_lst, is_tup, is_int, is_bl, is_lst, is_str, is_non, rv_tup, hx, wdl, D.sig, rd_any hv.lk, rd_any hu.lk, rd_any hu2.lk, e, e2, hn]
    rw [tk 2]
    refine .bnd ((wide_names hx D hu2 (by omega) (by omega)).imp ?_)
    rintro fl σ ⟨rfl, ks, u3, x3, rfl, hu3, hp⟩
    obtain ⟨way, u4, e4, w0, w1, hu4⟩ := D.call _ u3 3 hu3 (by omega) (by omega) (by omega)
    obtain ⟨way, rfl⟩ : ∃ j : Nat, way = (j : Int) := ⟨way.toNat, by omega⟩
    rw [th_nx, tk 1, show List.take 1 (List.drop 2 (List.drop 1 b_x_wide)) = [.asg (.nm 6) (.call "_law_draw" [.var 0, .c (.int 3)])] from rfl]
    simp -dsimp only [w_int, w_bl, w_str, w_non, w_var, w_glb, w_tup, w_lst, w_bin, w_neg, w_not, w_cmp, w_chain, w_and, w_or, w_ife, w_ix, w_sl, w_slL, w_slH, w_slB, w_rev, w_call, w_blt, w_meth, w_isi, w_dsp, w_rngL, w_rngT, lcSrc, w_lc, w_es0, w_es1, w_ts0, w_ts1, w_asg, subO, w_asgSub, w_expr, w_ret, w_retN, w_ite, w_for, w_whl, w_pass, w_brk, w_cont, w_ss0, w_ss1, th_nx, th_ret, th_brk, th_cont, ob_some, br_t, br_f, qb_ok, qb_assoc, rd_s, rd_non, rd_bl, rd_int, rd_str, rd_tup, rd_lst, rd_fro, rd_dct, lookO, looks, on1, on2, intO, force, forces, forceQ, asgF, asgO, asgP, asgPs, Opd.v, ld_non, ld_bl, ld_int, ld_str, ld_tup, ld_lst, ld_fro, ld_dct, lk_non, lk_bl, lk_int, lk_str, lk_tup, lk_lst, lk_fro, lk_dct, lk_lck, clOf, finQ_ret, finQ_nx, exitQ, outsP, callP, argsP, backP,  List.getElem?_cons_zero, List.getElem?_cons_succ, List.set_cons_zero, List.set_cons_succ, Option.getD_some, Option.map_some, Option.bind_some, reduceCtorEq, ↓reduceIte, if_true, if_false, noRef, noRefs, emb, embs, tr_bl, tr_int, tr_non, tr_tup, tr_lst, bp_add, bp_sub, cp_eqI, cp_neI, cp_eqS, cp_neS, cp_lt, cp_le, cp_gt, cp_ge, cp_in, cp_notin, cp_isN, cp_isnN, isNon, mx_int, mn_int, ln_tup, ln_lst, ln_fro, tu_lst, tu_tup, li_tup, li_lst, in_bl, in_int, ix_tup', ix_lst', at_0, at_1, at_2, at_3, canP, Bool.not_true, Bool.not_false, Bool.false_eq_true, Bool.true_and, Bool.and_true, Bool.and_self, decide_true, decide_false, methO, Me.reads, kd_str', kd_tup', kd_lst', kd_dct', or_true, true_or, or_false, false_or, and_true, true_and, and_self, ne_eq, not_false_eq_true, not_true_eq_false, eq_self,  srcP, lockO, unlockO, restP, Option.join_some, lc_some, lc_t, lc_f, fs_some, wipeP, List.length_cons, List.length_nil, Nat.reduceAdd, List.map_cons, List.map_nil, List.cons_append, List.nil_append, List.replicate, Nat.reduceSub, beq_self_eq_true, lcOk, MT.slots, MT.slotss, List.all_cons, List.all_nil, List.contains_cons, List.contains_nil, Bool.true_or, Bool.or_true, Bool.or_false, Bool.false_or, Nat.reduceBEq, rng_len, List.length_map, it_tup, it_lst, is_tup, is_int, is_bl, is_lst, is_str, is_non, rv_tup, hx, wdl, D.sig, rd_any hu3.lk, rd_any hu4.lk, e4]
    rw [tk 1]
    refine .bnd ((wide_pairs hx n1 (by omega) (show way ≤ 2 by omega) hp).imp ?_)
    rintro fl σ ⟨rfl, ps, rfl, hpl, ok⟩
    rw [th_nx, tk 1]
    refine .bnd ((wide_drawn hx D hu4 (by omega) n1 (by omega) hm hpl ok).imp ?_)
    rintro fl σ ⟨rfl, ps, u5, x5, x8, rfl, hu5, hpl, ok⟩
    rw [th_nx, show List.drop 1 (List.drop 1 (List.drop 1 (List.drop 2 (List.drop 1 b_x_wide)))) = [.ret (.tup [.var 2, .blt .tuple [.lc (.tup [.blt .min [.var 9], .blt .max [.var 9], .call "_law_price" [.var 0, .c (.bl true)]]) (.nm 9) .val (.var 7) (.c .non) [] [9]]])] from rfl]
    simp -dsimp only [w_int, w_bl, w_str, w_non, w_var, w_glb, w_tup, w_lst, w_bin, w_neg, w_not, w_cmp, w_chain, w_and, w_or, w_ife, w_ix, w_sl, w_slL, w_slH, w_slB, w_rev, w_call, w_blt, w_meth, w_isi, w_dsp, w_rngL, w_rngT, lcSrc, w_lc, w_es0, w_es1, w_ts0, w_ts1, w_asg, subO, w_asgSub, w_expr, w_ret, w_retN, w_ite, w_for, w_whl, w_pass, w_brk, w_cont, w_ss0, w_ss1, th_nx, th_ret, th_brk, th_cont, ob_some, br_t, br_f, qb_ok, qb_assoc, rd_s, rd_non, rd_bl, rd_int, rd_str, rd_tup, rd_lst, rd_fro, rd_dct, lookO, looks, on1, on2, intO, force, forces, forceQ, asgF, asgO, asgP, asgPs, Opd.v, ld_non, ld_bl, ld_int, ld_str, ld_tup, ld_lst, ld_fro, ld_dct, lk_non, lk_bl, lk_int, lk_str, lk_tup, lk_lst, lk_fro, lk_dct, lk_lck, clOf, finQ_ret, finQ_nx, exitQ, outsP, callP, argsP, backP,  List.getElem?_cons_zero, List.getElem?_cons_succ, List.set_cons_zero, List.set_cons_succ, Option.getD_some, Option.map_some, Option.bind_some, reduceCtorEq, ↓reduceIte, if_true, if_false, noRef, noRefs, emb, embs, tr_bl, tr_int, tr_non, tr_tup, tr_lst, bp_add, bp_sub, cp_eqI, cp_neI, cp_eqS, cp_neS, cp_lt, cp_le, cp_gt, cp_ge, cp_in, cp_notin, cp_isN, cp_isnN, isNon, mx_int, mn_int, ln_tup, ln_lst, ln_fro, tu_lst, tu_tup, li_tup, li_lst, in_bl, in_int, ix_tup', ix_lst', at_0, at_1, at_2, at_3, canP, Bool.not_true, Bool.not_false, Bool.false_eq_true, Bool.true_and, Bool.and_true, Bool.and_self, decide_true, decide_false, methO, Me.reads, kd_str', kd_tup', kd_lst', kd_dct', or_true, true_or, or_false, false_or, and_true, true_and, and_self, ne_eq, not_false_eq_true, not_true_eq_false, eq_self,  srcP, lockO, unlockO, restP, Option.join_some, lc_some, lc_t, lc_f, fs_some, wipeP, List.length_cons, List.length_nil, Nat.reduceAdd, List.map_cons, List.map_nil, List.cons_append, List.nil_append, List.replicate, Nat.reduceSub, beq_self_eq_true, lcOk, MT.slots, MT.slotss, List.all_cons, List.all_nil, List.contains_cons, List.contains_nil, Bool.true_or, Bool.or_true, Bool.or_false, Bool.false_or, Nat.reduceBEq, rng_len, List.length_map, it_tup, it_lst, is_tup, is_int, is_bl, is_lst, is_str, is_non, rv_tup, hx, wdl, lm_le (show ps.length ≤ 1000000 by omega)]
    refine .bnd (compD_inv (fun i zs σ => ∃ (ts : List AT) (w : PV), zs = ts.map tieV ∧ ts.length = i ∧ i ≤ ps.length ∧ σ = [some w, some (.int m), some (.int n), x3, some (.lst (natsP ks)), x5, some (.int way), some .lck, x8, none] ∧ Fd (T + 2000 + 3 * i) w ∧ ∀ t ∈ ts, okA true n t) ⟨[], u5, rfl, rfl, by omega, rfl, hu5.mono (by omega), by simp⟩ ?_ ?_)
    · rintro i x zs σ hi ⟨ts, w, rfl, htl, hil, rfl, hw, okt⟩
      rw [List.getElem?_map] at hi
      obtain ⟨t, ht, rfl⟩ := Option.map_eq_some_iff.mp hi
      obtain ⟨hi2, ht2⟩ := List.getElem?_eq_some_iff.mp ht
      obtain ⟨o1, o2, o3⟩ := ok t (by rw [← ht2]; exact List.getElem_mem _)
      obtain ⟨r, w', e, r1, r2, r3, hw'⟩ := P.call _ w true hw (by omega)
      obtain ⟨t1, t2⟩ := t
      simp only at o1 o2 o3
      have emn : bltP .min [pairV (t1, t2)] = some (.val (.int ((min t1 t2 : Nat) : Int))) := by
        simp only [pairV, mn_two]
        split <;> (congr 3; omega)
      have emx : bltP .max [pairV (t1, t2)] = some (.val (.int ((max t1 t2 : Nat) : Int))) := by
        simp only [pairV, mx_two]
        split <;> (congr 3; omega)
      have lp : isLk (pairV (t1, t2)) = false := rfl
      have lp2 : isLD (pairV (t1, t2)) = false := rfl
      simp -dsimp only [w_int, w_bl, w_str, w_non, w_var, w_glb, w_tup, w_lst, w_bin, w_neg, w_not, w_cmp, w_chain, w_and, w_or, w_ife, w_ix, w_sl, w_slL, w_slH, w_slB, w_rev, w_call, w_blt, w_meth, w_isi, w_dsp, w_rngL, w_rngT, lcSrc, w_lc, w_es0, w_es1, w_ts0, w_ts1, w_asg, subO, w_asgSub, w_expr, w_ret, w_retN, w_ite, w_for, w_whl, w_pass, w_brk, w_cont, w_ss0, w_ss1, th_nx, th_ret, th_brk, th_cont, ob_some, br_t, br_f, qb_ok, qb_assoc, rd_s, rd_non, rd_bl, rd_int, rd_str, rd_tup, rd_lst, rd_fro, rd_dct, lookO, looks, on1, on2, intO, force, forces, forceQ, asgF, asgO, asgP, asgPs, Opd.v, ld_non, ld_bl, ld_int, ld_str, ld_tup, ld_lst, ld_fro, ld_dct, lk_non, lk_bl, lk_int, lk_str, lk_tup, lk_lst, lk_fro, lk_dct, lk_lck, clOf, finQ_ret, finQ_nx, exitQ, outsP, callP, argsP, backP,  List.getElem?_cons_zero, List.getElem?_cons_succ, List.set_cons_zero, List.set_cons_succ, Option.getD_some, Option.map_some, Option.bind_some, reduceCtorEq, ↓reduceIte, if_true, if_false, noRef, noRefs, emb, embs, tr_bl, tr_int, tr_non, tr_tup, tr_lst, bp_add, bp_sub, cp_eqI, cp_neI, cp_eqS, cp_neS, cp_lt, cp_le, cp_gt, cp_ge, cp_in, cp_notin, cp_isN, cp_isnN, isNon, mx_int, mn_int, ln_tup, ln_lst, ln_fro, tu_lst, tu_tup, li_tup, li_lst, in_bl, in_int, ix_tup', ix_lst', at_0, at_1, at_2, at_3, canP, Bool.not_true, Bool.not_false, Bool.false_eq_true, Bool.true_and, Bool.and_true, Bool.and_self, decide_true, decide_false, methO, Me.reads, kd_str', kd_tup', kd_lst', kd_dct', or_true, true_or, or_false, false_or, and_true, true_and, and_self, ne_eq, not_false_eq_true, not_true_eq_false, eq_self,  srcP, lockO, unlockO, restP, Option.join_some, lc_some, lc_t, lc_f, fs_some, wipeP, List.length_cons, List.length_nil, Nat.reduceAdd, List.map_cons, List.map_nil, List.cons_append, List.nil_append, List.replicate, Nat.reduceSub, beq_self_eq_true, lcOk, MT.slots, MT.slotss, List.all_cons, List.all_nil, List.contains_cons, List.contains_nil, Bool.true_or, Bool.or_true, Bool.or_false, Bool.false_or, Nat.reduceBEq, rng_len, List.length_map, it_tup, it_lst, is_tup, is_int, is_bl, is_lst, is_str, is_non, rv_tup, hx, wdl, P.sig, rd_any hw.lk, rd_any hw'.lk, rd_any lp, lp2, e, emn, emx]
      refine .ok ⟨ts ++ [(min t1 t2, max t1 t2, r)], w', by simp [tieV], by simp [htl], by omega, rfl, hw'.mono (by omega), fun t ht => ?_⟩
      rcases List.mem_append.mp ht with q | q
      · exact okt t q
      · simp only [List.mem_singleton] at q
        subst q
        exact ⟨by dsimp only; omega, by dsimp only; omega, r1, r2, r3⟩
    · rintro zs σ ⟨ts, w, rfl, htl, hil, rfl, hw, okt⟩
      simp only [List.length_map] at htl hw
      simp -dsimp only [w_int, w_bl, w_str, w_non, w_var, w_glb, w_tup, w_lst, w_bin, w_neg, w_not, w_cmp, w_chain, w_and, w_or, w_ife, w_ix, w_sl, w_slL, w_slH, w_slB, w_rev, w_call, w_blt, w_meth, w_isi, w_dsp, w_rngL, w_rngT, lcSrc, w_lc, w_es0, w_es1, w_ts0, w_ts1, w_asg, subO, w_asgSub, w_expr, w_ret, w_retN, w_ite, w_for, w_whl, w_pass, w_brk, w_cont, w_ss0, w_ss1, th_nx, th_ret, th_brk, th_cont, ob_some, br_t, br_f, qb_ok, qb_assoc, rd_s, rd_non, rd_bl, rd_int, rd_str, rd_tup, rd_lst, rd_fro, rd_dct, lookO, looks, on1, on2, intO, force, forces, forceQ, asgF, asgO, asgP, asgPs, Opd.v, ld_non, ld_bl, ld_int, ld_str, ld_tup, ld_lst, ld_fro, ld_dct, lk_non, lk_bl, lk_int, lk_str, lk_tup, lk_lst, lk_fro, lk_dct, lk_lck, clOf, finQ_ret, finQ_nx, exitQ, outsP, callP, argsP, backP,  List.getElem?_cons_zero, List.getElem?_cons_succ, List.set_cons_zero, List.set_cons_succ, Option.getD_some, Option.map_some, Option.bind_some, reduceCtorEq, ↓reduceIte, if_true, if_false, noRef, noRefs, emb, embs, tr_bl, tr_int, tr_non, tr_tup, tr_lst, bp_add, bp_sub, cp_eqI, cp_neI, cp_eqS, cp_neS, cp_lt, cp_le, cp_gt, cp_ge, cp_in, cp_notin, cp_isN, cp_isnN, isNon, mx_int, mn_int, ln_tup, ln_lst, ln_fro, tu_lst, tu_tup, li_tup, li_lst, in_bl, in_int, ix_tup', ix_lst', at_0, at_1, at_2, at_3, canP, Bool.not_true, Bool.not_false, Bool.false_eq_true, Bool.true_and, Bool.and_true, Bool.and_self, decide_true, decide_false, methO, Me.reads, kd_str', kd_tup', kd_lst', kd_dct', or_true, true_or, or_false, false_or, and_true, true_and, and_self, ne_eq, not_false_eq_true, not_true_eq_false, eq_self,  srcP, lockO, unlockO, restP, Option.join_some, lc_some, lc_t, lc_f, fs_some, wipeP, List.length_cons, List.length_nil, Nat.reduceAdd, List.map_cons, List.map_nil, List.cons_append, List.nil_append, List.replicate, Nat.reduceSub, beq_self_eq_true, lcOk, MT.slots, MT.slotss, List.all_cons, List.all_nil, List.contains_cons, List.contains_nil, Bool.true_or, Bool.or_true, Bool.or_false, Bool.false_or, Nat.reduceBEq, rng_len, List.length_map, it_tup, it_lst, is_tup, is_int, is_bl, is_lst, is_str, is_non, rv_tup, hx, wdl]
      refine .ok (.ret ?_)
      simp -dsimp only [w_int, w_bl, w_str, w_non, w_var, w_glb, w_tup, w_lst, w_bin, w_neg, w_not, w_cmp, w_chain, w_and, w_or, w_ife, w_ix, w_sl, w_slL, w_slH, w_slB, w_rev, w_call, w_blt, w_meth, w_isi, w_dsp, w_rngL, w_rngT, lcSrc, w_lc, w_es0, w_es1, w_ts0, w_ts1, w_asg, subO, w_asgSub, w_expr, w_ret, w_retN, w_ite, w_for, w_whl, w_pass, w_brk, w_cont, w_ss0, w_ss1, th_nx, th_ret, th_brk, th_cont, ob_some, br_t, br_f, qb_ok, qb_assoc, rd_s, rd_non, rd_bl, rd_int, rd_str, rd_tup, rd_lst, rd_fro, rd_dct, lookO, looks, on1, on2, intO, force, forces, forceQ, asgF, asgO, asgP, asgPs, Opd.v, ld_non, ld_bl, ld_int, ld_str, ld_tup, ld_lst, ld_fro, ld_dct, lk_non, lk_bl, lk_int, lk_str, lk_tup, lk_lst, lk_fro, lk_dct, lk_lck, clOf, finQ_ret, finQ_nx, exitQ, outsP, callP, argsP, backP,  List.getElem?_cons_zero, List.getElem?_cons_succ, List.set_cons_zero, List.set_cons_succ, Option.getD_some, Option.map_some, Option.bind_some, reduceCtorEq, ↓reduceIte, if_true, if_false, noRef, noRefs, emb, embs, tr_bl, tr_int, tr_non, tr_tup, tr_lst, bp_add, bp_sub, cp_eqI, cp_neI, cp_eqS, cp_neS, cp_lt, cp_le, cp_gt, cp_ge, cp_in, cp_notin, cp_isN, cp_isnN, isNon, mx_int, mn_int, ln_tup, ln_lst, ln_fro, tu_lst, tu_tup, li_tup, li_lst, in_bl, in_int, ix_tup', ix_lst', at_0, at_1, at_2, at_3, canP, Bool.not_true, Bool.not_false, Bool.false_eq_true, Bool.true_and, Bool.and_true, Bool.and_self, decide_true, decide_false, methO, Me.reads, kd_str', kd_tup', kd_lst', kd_dct', or_true, true_or, or_false, false_or, and_true, true_and, and_self, ne_eq, not_false_eq_true, not_true_eq_false, eq_self,  srcP, lockO, unlockO, restP, Option.join_some, lc_some, lc_t, lc_f, fs_some, wipeP, List.length_cons, List.length_nil, Nat.reduceAdd, List.map_cons, List.map_nil, List.cons_append, List.nil_append, List.replicate, Nat.reduceSub, beq_self_eq_true, lcOk, MT.slots, MT.slotss, List.all_cons, List.all_nil, List.contains_cons, List.contains_nil, Bool.true_or, Bool.or_true, Bool.or_false, Bool.false_or, Nat.reduceBEq, rng_len, List.length_map, it_tup, it_lst, is_tup, is_int, is_bl, is_lst, is_str, is_non, rv_tup, hw.lk]
      exact .ok ⟨n, ts, w, rfl, rfl, n1, n2, by omega, okt, hw.mono (by omega)⟩
  obtain ⟨o, ios, e, n, ts, v', rfl, rfl, q⟩ := fin
  exact ⟨n, ts, v', e, q⟩
end GA
end Mn

set_option autoImplicit false
set_option maxHeartbeats 1000000
/-! GAE: odds, prices and cuts (the program's functions). -/
namespace Mn
namespace GA
open PySem L2
/-- 0 web, 1 some, 2 found, 3 number, 4 a, 5 b, 6 price -/
def b_ends_of : List MS := [
  .asg (.nm 2) (.bin .Mult (.lst [.c (.int 0)]) (.ix (.var 0) (.c (.int 0)))),
  .for_ (.nm 3) .val (.var 1) (.c .non) [
    .asg (.tp [.nm 4, .nm 5, .nm 6]) (.ix (.ix (.var 0) (.c (.int 1))) (.var 3)),
    .asgSub (.var 2) (.var 4) (.bin .Add (.ix (.var 2) (.var 4)) (.c (.int 1))),
    .asgSub (.var 2) (.var 5) (.bin .Add (.ix (.var 2) (.var 5)) (.c (.int 1)))],
  .ret (.var 2)]
def p_ends_of : FP := ⟨2, 7, b_ends_of, [.sh, .sh, .ow, .sh, .sh, .sh, .sh], [.pl, .pl], false⟩
/-- 0 web -/
def b_many_ends : List MS := [
  .ret (.blt .tuple [.call "ends_of" [.var 0, .rngL (.c (.int 0)) (.blt .len [.ix (.var 0) (.c (.int 1))])]])]
def p_many_ends : FP := ⟨1, 1, b_many_ends, [.sh], [.pl], false⟩
/-- 0 web, 1 some, 2 ends, 3 place -/
def b_odds_of : List MS := [
  .asg (.nm 2) (.call "ends_of" [.var 0, .var 1]),
  .ret (.blt .tuple [.lc (.var 3) (.nm 3) .rng1 (.ix (.var 0) (.c (.int 0))) (.c .non) [.cmp .Eq (.bin .Mod (.ix (.var 2) (.var 3)) (.c (.int 2))) (.c (.int 1))] [3]])]
def p_odds_of : FP := ⟨2, 4, b_odds_of, [.sh, .sh, .sh, .sh], [.pl, .pl], false⟩
/-- 0 web, 1 some, 2 number -/
def b_price_of : List MS := [
  .ret (.blt .sum [.lc (.ix (.ix (.ix (.var 0) (.c (.int 1))) (.var 2)) (.c (.int 2))) (.nm 2) .val (.var 1) (.c .non) [] [2]])]
def p_price_of : FP := ⟨2, 3, b_price_of, [.sh, .sh, .sh], [.pl, .pl], false⟩
/-- 0 web, 1 side, 2 found, 3 number, 4 tie -/
def b_cut_of : List MS := [
  .asg (.nm 2) (.lst []),
  .for_ (.tp [.nm 3, .nm 4]) .enum (.ix (.var 0) (.c (.int 1))) (.c .non) [
    .ite (.cmp .NotEq (.cmp .In (.ix (.var 4) (.c (.int 0))) (.var 1)) (.cmp .In (.ix (.var 4) (.c (.int 1))) (.var 1))) [
      .expr (.meth .append (.var 2) [.var 3])] []],
  .ret (.blt .tuple [.var 2])]
def p_cut_of : FP := ⟨2, 5, b_cut_of, [.sh, .sh, .ow, .sh, .sh], [.pl, .pl], false⟩
def tat (ts : List AT) (k : Nat) : AT := ts.getD k (0, 0, 0)
def hits (t : AT) (p : Nat) : Nat := (if t.1 = p then 1 else 0) + (if t.2.1 = p then 1 else 0)
def deg (ts : List AT) (S : List Nat) (p : Nat) : Nat := (S.map fun k => hits (tat ts k) p).sum
def mapR (n : Nat) (f : Nat → Int) : List PV := (List.range n).map fun p => .int (f p)
def endsP (n : Nat) (ts : List AT) (S : List Nat) : List PV := mapR n fun p => (deg ts S p : Nat)
theorem tat_at {ts : List AT} {k : Nat} (h : k < ts.length) : tat ts k = ts[k] := by simp [tat, h]
theorem tat_mem {ts : List AT} {k : Nat} (h : k < ts.length) : tat ts k ∈ ts := by rw [tat_at h]; exact List.getElem_mem _
theorem tie_at {ts : List AT} {k : Nat} (h : k < ts.length) : atI (ts.map tieV) (k : Int) = some (.tup [.int (tat ts k).1, .int (tat ts k).2.1, .int (tat ts k).2.2]) := by
  rw [at_nat, List.getElem?_map, List.getElem?_eq_getElem h, tat_at h]; rfl
theorem mapR_len {n : Nat} {f : Nat → Int} : (mapR n f).length = n := by simp [mapR]
theorem at_mapR {n a : Nat} {f : Nat → Int} (h : a < n) : atI (mapR n f) (a : Int) = some (.int (f a)) := by
  rw [at_nat, mapR, List.getElem?_map, List.getElem?_range h]; rfl
theorem set_mapR {n a : Nat} {f : Nat → Int} {v : Int} (h : a < n) : setV (.lst (mapR n f)) (.int (a : Int)) (.int v) = some (.lst (mapR n fun p => if p = a then v else f p)) := by
  rw [set_nat (by rw [mapR_len]; exact h)]
  congr 2
  unfold mapR
  apply List.ext_getElem?
  intro i
  rw [List.getElem?_set]
  by_cases c : a = i
  · subst c
    simp [h]
  · rw [if_neg c]
    by_cases ci : i < n
    · simp [ci, Ne.symm c]
    · simp [ci]
theorem deg_take {ts : List AT} {S : List Nat} {i p : Nat} (h : i < S.length) : deg ts (S.take (i + 1)) p = deg ts (S.take i) p + hits (tat ts S[i]) p := by
  unfold deg
  rw [List.take_succ_eq_append_getElem h, List.map_append, List.sum_append]
  simp
theorem compD_nats {L : List Nat} {g : Nat → Option PV} {cl : Nat → Cls} {tg : MT} {own : List Nat} {ts : PS → Q Bool} {el : PS → Q PV} {σ0 : PS}
    (hs : ∀ a ∈ L, Evq (lcStepP (asgP cl tg (.int (a : Nat)) (wipeP σ0 own)) ts el) fun o σa => o = g a ∧ wipeP σa own = wipeP σ0 own) : compD cl tg own ts el (natsP L) σ0 = .ok (L.filterMap g) σ0 := compD_of hs
def itS (w : PV) (xs : List PV) : Prop := w = .tup xs ∨ w = .lst xs
structure Ends (X : CQ) : Prop where
  sig : X.sig "ends_of" = some ([.pl, .pl], false)
  call : ∀ n ts S w b, n ≤ 1000 → (∀ t ∈ ts, okA b n t) → (∀ s ∈ S, s < ts.length) → itS w (natsP S) → X.call "ends_of" [webV n ts, w] = .ok (.val (.lst (endsP n ts S))) [webV n ts, w]
theorem ends_ok {Γ : Str → Option FP} {gl : Str → Option MV} {W d : Nat} {c : Nat → Cls} (g : Γ "ends_of" = some p_ends_of) : Ends ⟨runP Γ gl W (d + 1), sigP Γ, c, gl, W⟩ := by
  refine ⟨sig_eq g, fun n ts S w b hn ok hS hw => ?_⟩
  dsimp only
  rw [run_eq g rfl rfl]
  generalize hX : (⟨runP Γ gl W d, sigP Γ, clOf [.sh, .sh, .ow, .sh, .sh, .sh, .sh], gl, W⟩ : CQ) = X
  have hx : X.cl = clOf [.sh, .sh, .ow, .sh, .sh, .sh, .sh] := by rw [← hX]
  have fin : Evo (finQ [.pl, .pl] false [webV n ts, w] (evTs' X b_ends_of [some (webV n ts), some w, none, none, none, none, none])) fun o ios => o = .val (.lst (endsP n ts S)) ∧ ios = [webV n ts, w] := by
    refine finQ_ev ?_
    simp only [b_ends_of]
    have lw : isLk w = false := by rcases hw with rfl | rfl <;> rfl
    have e0 : binP .Mult (.lst [.int 0]) (.int n) = some (.own (.lst (endsP n ts []))) := by
      rw [bp_mulL ⟨by omega, by omega, by simp [lineM]; omega⟩]
      congr 3
      simp [endsP, mapR, deg, List.map_const']
    have iw : itP .val w .non = some (natsP S) := by rcases hw with rfl | rfl <;> rfl
    simp only [webV]
    simp -dsimp only [w_int, w_bl, w_str, w_non, w_var, w_glb, w_tup, w_lst, w_bin, w_neg, w_not, w_cmp, w_chain, w_and, w_or, w_ife, w_ix, w_sl, w_slL, w_slH, w_slB, w_rev, w_call, w_blt, w_meth, w_isi, w_dsp, w_rngL, w_rngT, lcSrc, w_lc, w_es0, w_es1, w_ts0, w_ts1, w_asg, subO, w_asgSub, w_expr, w_ret, w_retN, w_ite, w_for, w_whl, w_pass, w_brk, w_cont, w_ss0, w_ss1, th_nx, th_ret, th_brk, th_cont, ob_some, br_t, br_f, qb_ok, qb_assoc, rd_s, rd_non, rd_bl, rd_int, rd_str, rd_tup, rd_lst, rd_fro, rd_dct, lookO, looks, on1, on2, intO, force, forces, forceQ, asgF, asgO, asgP, asgPs, Opd.v, ld_non, ld_bl, ld_int, ld_str, ld_tup, ld_lst, ld_fro, ld_dct, lk_non, lk_bl, lk_int, lk_str, lk_tup, lk_lst, lk_fro, lk_dct, lk_lck, clOf, finQ_ret, finQ_nx, exitQ, outsP, callP, argsP, backP,  List.getElem?_cons_zero, List.getElem?_cons_succ, List.set_cons_zero, List.set_cons_succ, Option.getD_some, Option.map_some, Option.bind_some, reduceCtorEq, ↓reduceIte, if_true, if_false, noRef, noRefs, emb, embs, tr_bl, tr_int, tr_non, tr_tup, tr_lst, bp_add, bp_sub, cp_eqI, cp_neI, cp_eqS, cp_neS, cp_lt, cp_le, cp_gt, cp_ge, cp_in, cp_notin, cp_isN, cp_isnN, isNon, mx_int, mn_int, ln_tup, ln_lst, ln_fro, tu_lst, tu_tup, li_tup, li_lst, in_bl, in_int, ix_tup', ix_lst', at_0, at_1, at_2, at_3, canP, Bool.not_true, Bool.not_false, Bool.false_eq_true, Bool.true_and, Bool.and_true, Bool.and_self, decide_true, decide_false, methO, Me.reads, kd_str', kd_tup', kd_lst', kd_dct', or_true, true_or, or_false, false_or, and_true, true_and, and_self, ne_eq, not_false_eq_true, not_true_eq_false, eq_self,  srcP, lockO, unlockO, restP, Option.join_some, lc_some, lc_t, lc_f, fs_some, wipeP, List.length_cons, List.length_nil, Nat.reduceAdd, List.map_cons, List.map_nil, List.cons_append, List.nil_append, List.replicate, Nat.reduceSub, beq_self_eq_true, lcOk, MT.slots, MT.slotss, List.all_cons, List.all_nil, List.contains_cons, List.contains_nil, Bool.true_or, Bool.or_true, Bool.or_false, Bool.false_or, Nat.reduceBEq, rng_len, List.length_map, it_tup, it_lst, is_tup, is_int, is_bl, is_lst, is_str, is_non, rv_tup, hx, e0, rd_any lw, iw]
    refine .bnd ((forD_inv (fun i σ => ∃ x3 x4 x5 x6, σ = [some (.tup [.int n, .tup (ts.map tieV)]), some w, some (.lst (endsP n ts (S.take i))), x3, x4, x5, x6]) ⟨_, _, _, _, rfl⟩ ?_).imp ?_)
    · rintro i v σ hi ⟨x3, x4, x5, x6, rfl⟩
      rw [natsP, List.getElem?_map] at hi
      obtain ⟨k, hk, rfl⟩ := Option.map_eq_some_iff.mp hi
      obtain ⟨hi2, hk2⟩ := List.getElem?_eq_some_iff.mp hk
      have hkl : k < ts.length := hS k (by rw [← hk2]; exact List.getElem_mem _)
      obtain ⟨o1, o2, _⟩ := ok _ (tat_mem hkl)
      have ta := tie_at hkl
      have en : endsP n ts (S.take (i + 1)) = mapR n fun p => if p = (tat ts k).2.1 then ((deg ts (S.take i) (tat ts k).2.1 : Nat) : Int) + 1 else if p = (tat ts k).1 then ((deg ts (S.take i) (tat ts k).1 : Nat) : Int) + 1 else (deg ts (S.take i) p : Nat) := by
        unfold endsP
        congr 1
        funext p
        rw [deg_take hi2, hk2]
        unfold hits
        by_cases c1 : (tat ts k).1 = p
        · by_cases c2 : (tat ts k).2.1 = p
          · omega
          · rw [if_pos c1, if_neg c2, if_neg (Ne.symm c2), if_pos c1.symm, c1]; omega
        · by_cases c2 : (tat ts k).2.1 = p
          · rw [if_neg c1, if_pos c2, if_pos c2.symm, c2]; omega
          · rw [if_neg c1, if_neg c2, if_neg (Ne.symm c2), if_neg (Ne.symm c1)]; omega
      have a1 : atI (endsP n ts (S.take i)) ((tat ts k).1 : Int) = some (.int ((deg ts (S.take i) (tat ts k).1 : Nat) : Int)) := at_mapR (by omega)
      have s1 : ∀ v, setV (.lst (endsP n ts (S.take i))) (.int ((tat ts k).1 : Int)) (.int v) = some (.lst (mapR n fun p => if p = (tat ts k).1 then v else (deg ts (S.take i) p : Nat))) := fun v => set_mapR (by omega)
      have a2 : ∀ v : Int, atI (mapR n fun p => if p = (tat ts k).1 then v else (deg ts (S.take i) p : Nat)) ((tat ts k).2.1 : Int) = some (.int ((deg ts (S.take i) (tat ts k).2.1 : Nat) : Int)) := fun v => by
        rw [at_mapR (by omega), if_neg (by omega)]
      have s2 : ∀ (f : Nat → Int) (v : Int), setV (.lst (mapR n f)) (.int ((tat ts k).2.1 : Int)) (.int v) = some (.lst (mapR n fun p => if p = (tat ts k).2.1 then v else f p)) := fun f v => set_mapR (by omega)
      rw [en]
      generalize hE : endsP n ts (S.take i) = E at a1 s1
      simp -dsimp only [asgP, asgPs, clOf, fs_some, lc_some, List.getElem?_cons_zero, List.getElem?_cons_succ, List.set_cons_zero, List.set_cons_succ, Option.getD_some, Option.bind_some, Option.map_some, reduceCtorEq, ↓reduceIte, List.length_cons, List.length_nil, ld_int, ld_tup, ld_bl, ld_str, ld_non, isLD, hx]
      simp -dsimp only [w_int, w_bl, w_str, w_non, w_var, w_glb, w_tup, w_lst, w_bin, w_neg, w_not, w_cmp, w_chain, w_and, w_or, w_ife, w_ix, w_sl, w_slL, w_slH, w_slB, w_rev, w_call, w_blt, w_meth, w_isi, w_dsp, w_rngL, w_rngT, lcSrc, w_lc, w_es0, w_es1, w_ts0, w_ts1, w_asg, subO, w_asgSub, w_expr, w_ret, w_retN, w_ite, w_for, w_whl, w_pass, w_brk, w_cont, w_ss0, w_ss1, th_nx, th_ret, th_brk, th_cont, ob_some, br_t, br_f, qb_ok, qb_assoc, rd_s, rd_non, rd_bl, rd_int, rd_str, rd_tup, rd_lst, rd_fro, rd_dct, lookO, looks, on1, on2, intO, force, forces, forceQ, asgF, asgO, asgP, asgPs, Opd.v, ld_non, ld_bl, ld_int, ld_str, ld_tup, ld_lst, ld_fro, ld_dct, lk_non, lk_bl, lk_int, lk_str, lk_tup, lk_lst, lk_fro, lk_dct, lk_lck, clOf, finQ_ret, finQ_nx, exitQ, outsP, callP, argsP, backP,  List.getElem?_cons_zero, List.getElem?_cons_succ, List.set_cons_zero, List.set_cons_succ, Option.getD_some, Option.map_some, Option.bind_some, reduceCtorEq, ↓reduceIte, if_true, if_false, noRef, noRefs, emb, embs, tr_bl, tr_int, tr_non, tr_tup, tr_lst, bp_add, bp_sub, cp_eqI, cp_neI, cp_eqS, cp_neS, cp_lt, cp_le, cp_gt, cp_ge, cp_in, cp_notin, cp_isN, cp_isnN, isNon, mx_int, mn_int, ln_tup, ln_lst, ln_fro, tu_lst, tu_tup, li_tup, li_lst, in_bl, in_int, ix_tup', ix_lst', at_0, at_1, at_2, at_3, canP, Bool.not_true, Bool.not_false, Bool.false_eq_true, Bool.true_and, Bool.and_true, Bool.and_self, decide_true, decide_false, methO, Me.reads, kd_str', kd_tup', kd_lst', kd_dct', or_true, true_or, or_false, false_or, and_true, true_and, and_self, ne_eq, not_false_eq_true, not_true_eq_false, eq_self,  srcP, lockO, unlockO, restP, Option.join_some, lc_some, lc_t, lc_f, fs_some, wipeP, List.length_cons, List.length_nil, Nat.reduceAdd, List.map_cons, List.map_nil, List.cons_append, List.nil_append, List.replicate, Nat.reduceSub, beq_self_eq_true, lcOk, MT.slots, MT.slotss, List.all_cons, List.all_nil, List.contains_cons, List.contains_nil, Bool.true_or, Bool.or_true, Bool.or_false, Bool.false_or, Nat.reduceBEq, rng_len, List.length_map, it_tup, it_lst, is_tup, is_int, is_bl, is_lst, is_str, is_non, rv_tup, hx, ta, a1, s1, a2, s2]
      exact .ok ⟨.inl rfl, _, _, _, _, rfl⟩
    · rintro fl σ ⟨rfl, x3, x4, x5, x6, rfl⟩
      rw [show (natsP S).length = S.length by simp [natsP], List.take_length]
      generalize endsP n ts S = E
      simp -dsimp only [w_int, w_bl, w_str, w_non, w_var, w_glb, w_tup, w_lst, w_bin, w_neg, w_not, w_cmp, w_chain, w_and, w_or, w_ife, w_ix, w_sl, w_slL, w_slH, w_slB, w_rev, w_call, w_blt, w_meth, w_isi, w_dsp, w_rngL, w_rngT, lcSrc, w_lc, w_es0, w_es1, w_ts0, w_ts1, w_asg, subO, w_asgSub, w_expr, w_ret, w_retN, w_ite, w_for, w_whl, w_pass, w_brk, w_cont, w_ss0, w_ss1, th_nx, th_ret, th_brk, th_cont, ob_some, br_t, br_f, qb_ok, qb_assoc, rd_s, rd_non, rd_bl, rd_int, rd_str, rd_tup, rd_lst, rd_fro, rd_dct, lookO, looks, on1, on2, intO, force, forces, forceQ, asgF, asgO, asgP, asgPs, Opd.v, ld_non, ld_bl, ld_int, ld_str, ld_tup, ld_lst, ld_fro, ld_dct, lk_non, lk_bl, lk_int, lk_str, lk_tup, lk_lst, lk_fro, lk_dct, lk_lck, clOf, finQ_ret, finQ_nx, exitQ, outsP, callP, argsP, backP,  List.getElem?_cons_zero, List.getElem?_cons_succ, List.set_cons_zero, List.set_cons_succ, Option.getD_some, Option.map_some, Option.bind_some, reduceCtorEq, ↓reduceIte, if_true, if_false, noRef, noRefs, emb, embs, tr_bl, tr_int, tr_non, tr_tup, tr_lst, bp_add, bp_sub, cp_eqI, cp_neI, cp_eqS, cp_neS, cp_lt, cp_le, cp_gt, cp_ge, cp_in, cp_notin, cp_isN, cp_isnN, isNon, mx_int, mn_int, ln_tup, ln_lst, ln_fro, tu_lst, tu_tup, li_tup, li_lst, in_bl, in_int, ix_tup', ix_lst', at_0, at_1, at_2, at_3, canP, Bool.not_true, Bool.not_false, Bool.false_eq_true, Bool.true_and, Bool.and_true, Bool.and_self, decide_true, decide_false, methO, Me.reads, kd_str', kd_tup', kd_lst', kd_dct', or_true, true_or, or_false, false_or, and_true, true_and, and_self, ne_eq, not_false_eq_true, not_true_eq_false, eq_self,  srcP, lockO, unlockO, restP, Option.join_some, lc_some, lc_t, lc_f, fs_some, wipeP, List.length_cons, List.length_nil, Nat.reduceAdd, List.map_cons, List.map_nil, List.cons_append, List.nil_append, List.replicate, Nat.reduceSub, beq_self_eq_true, lcOk, MT.slots, MT.slotss, List.all_cons, List.all_nil, List.contains_cons, List.contains_nil, Bool.true_or, Bool.or_true, Bool.or_false, Bool.false_or, Nat.reduceBEq, rng_len, List.length_map, it_tup, it_lst, is_tup, is_int, is_bl, is_lst, is_str, is_non, rv_tup, hx]
      refine .ok (.ret ?_)
      simp -dsimp only [w_int, w_bl, w_str, w_non, w_var, w_glb, w_tup, w_lst, w_bin, w_neg, w_not, w_cmp, w_chain, w_and, w_or, w_ife, w_ix, w_sl, w_slL, w_slH, w_slB, w_rev, w_call, w_blt, w_meth, w_isi, w_dsp, w_rngL, w_rngT, lcSrc, w_lc, w_es0, w_es1, w_ts0, w_ts1, w_asg, subO, w_asgSub, w_expr, w_ret, w_retN, w_ite, w_for, w_whl, w_pass, w_brk, w_cont, w_ss0, w_ss1, th_nx, th_ret, th_brk, th_cont, ob_some, br_t, br_f, qb_ok, qb_assoc, rd_s, rd_non, rd_bl, rd_int, rd_str, rd_tup, rd_lst, rd_fro, rd_dct, lookO, looks, on1, on2, intO, force, forces, forceQ, asgF, asgO, asgP, asgPs, Opd.v, ld_non, ld_bl, ld_int, ld_str, ld_tup, ld_lst, ld_fro, ld_dct, lk_non, lk_bl, lk_int, lk_str, lk_tup, lk_lst, lk_fro, lk_dct, lk_lck, clOf, finQ_ret, finQ_nx, exitQ, outsP, callP, argsP, backP,  List.getElem?_cons_zero, List.getElem?_cons_succ, List.set_cons_zero, List.set_cons_succ, Option.getD_some, Option.map_some, Option.bind_some, reduceCtorEq, ↓reduceIte, if_true, if_false, noRef, noRefs, emb, embs, tr_bl, tr_int, tr_non, tr_tup, tr_lst, bp_add, bp_sub, cp_eqI, cp_neI, cp_eqS, cp_neS, cp_lt, cp_le, cp_gt, cp_ge, cp_in, cp_notin, cp_isN, cp_isnN, isNon, mx_int, mn_int, ln_tup, ln_lst, ln_fro, tu_lst, tu_tup, li_tup, li_lst, in_bl, in_int, ix_tup', ix_lst', at_0, at_1, at_2, at_3, canP, Bool.not_true, Bool.not_false, Bool.false_eq_true, Bool.true_and, Bool.and_true, Bool.and_self, decide_true, decide_false, methO, Me.reads, kd_str', kd_tup', kd_lst', kd_dct', or_true, true_or, or_false, false_or, and_true, true_and, and_self, ne_eq, not_false_eq_true, not_true_eq_false, eq_self,  srcP, lockO, unlockO, restP, Option.join_some, lc_some, lc_t, lc_f, fs_some, wipeP, List.length_cons, List.length_nil, Nat.reduceAdd, List.map_cons, List.map_nil, List.cons_append, List.nil_append, List.replicate, Nat.reduceSub, beq_self_eq_true, lcOk, MT.slots, MT.slotss, List.all_cons, List.all_nil, List.contains_cons, List.contains_nil, Bool.true_or, Bool.or_true, Bool.or_false, Bool.false_or, Nat.reduceBEq, rng_len, List.length_map, it_tup, it_lst, is_tup, is_int, is_bl, is_lst, is_str, is_non, rv_tup]
      exact .ok ⟨rfl, rfl⟩
  obtain ⟨o, ios, e, rfl, rfl⟩ := fin
  exact e
theorem filterMap_if {α β : Type} {L : List α} {p : α → Bool} {f : α → β} : (L.filterMap fun k => if p k = true then some (f k) else none) = (L.filter p).map f := by
  induction L with
  | nil => rfl
  | cons a L ih =>
    rw [List.filterMap_cons, List.filter_cons]
    cases h : p a
    · simpa using ih
    · simpa using ih
def oddS (n : Nat) (ts : List AT) (S : List Nat) : List Nat := (List.range n).filter fun p => deg ts S p % 2 == 1
structure Odds (X : CQ) : Prop where
  sig : X.sig "odds_of" = some ([.pl, .pl], false)
  call : ∀ n ts S b, n ≤ 1000 → (∀ t ∈ ts, okA b n t) → (∀ s ∈ S, s < ts.length) → X.call "odds_of" [webV n ts, .tup (natsP S)] = .ok (.val (.tup (natsP (oddS n ts S)))) [webV n ts, .tup (natsP S)]
theorem odds_ok {Γ : Str → Option FP} {gl : Str → Option MV} {W d : Nat} {c : Nat → Cls} (g : Γ "odds_of" = some p_odds_of) (E : ∀ c, Ends ⟨runP Γ gl W d, sigP Γ, c, gl, W⟩) : Odds ⟨runP Γ gl W (d + 1), sigP Γ, c, gl, W⟩ := by
  refine ⟨sig_eq g, fun n ts S b hn ok hS => ?_⟩
  dsimp only
  rw [run_eq g rfl rfl]
  generalize hX : (⟨runP Γ gl W d, sigP Γ, clOf [.sh, .sh, .sh, .sh], gl, W⟩ : CQ) = X
  have hx : X.cl = clOf [.sh, .sh, .sh, .sh] := by rw [← hX]
  have E : Ends X := by rw [← hX]; exact E _
  have e := E.call n ts S _ b hn ok hS (.inl rfl)
  simp only [b_odds_of, webV] at e ⊢
  simp -dsimp only [w_int, w_bl, w_str, w_non, w_var, w_glb, w_tup, w_lst, w_bin, w_neg, w_not, w_cmp, w_chain, w_and, w_or, w_ife, w_ix, w_sl, w_slL, w_slH, w_slB, w_rev, w_call, w_blt, w_meth, w_isi, w_dsp, w_rngL, w_rngT, lcSrc, w_lc, w_es0, w_es1, w_ts0, w_ts1, w_asg, subO, w_asgSub, w_expr, w_ret, w_retN, w_ite, w_for, w_whl, w_pass, w_brk, w_cont, w_ss0, w_ss1, th_nx, th_ret, th_brk, th_cont, ob_some, br_t, br_f, qb_ok, qb_assoc, rd_s, rd_non, rd_bl, rd_int, rd_str, rd_tup, rd_lst, rd_fro, rd_dct, lookO, looks, on1, on2, intO, force, forces, forceQ, asgF, asgO, asgP, asgPs, Opd.v, ld_non, ld_bl, ld_int, ld_str, ld_tup, ld_lst, ld_fro, ld_dct, lk_non, lk_bl, lk_int, lk_str, lk_tup, lk_lst, lk_fro, lk_dct, lk_lck, clOf, finQ_ret, finQ_nx, exitQ, outsP, callP, argsP, backP,  List.getElem?_cons_zero, List.getElem?_cons_succ, List.set_cons_zero, List.set_cons_succ, Option.getD_some, Option.map_some, Option.bind_some, reduceCtorEq, ↓reduceIte, if_true, if_false, noRef, noRefs, emb, embs, tr_bl, tr_int, tr_non, tr_tup, tr_lst, bp_add, bp_sub, cp_eqI, cp_neI, cp_eqS, cp_neS, cp_lt, cp_le, cp_gt, cp_ge, cp_in, cp_notin, cp_isN, cp_isnN, isNon, mx_int, mn_int, ln_tup, ln_lst, ln_fro, tu_lst, tu_tup, li_tup, li_lst, in_bl, in_int, ix_tup', ix_lst', at_0, at_1, at_2, at_3, canP, Bool.not_true, Bool.not_false, Bool.false_eq_true, Bool.true_and, Bool.and_true, Bool.and_self, decide_true, decide_false, methO, Me.reads, kd_str', kd_tup', kd_lst', kd_dct', or_true, true_or, or_false, false_or, and_true, true_and, and_self, ne_eq, not_false_eq_true, not_true_eq_false, eq_self,  srcP, lockO, unlockO, restP, Option.join_some, lc_some, lc_t, lc_f, fs_some, wipeP, List.length_cons, List.length_nil, Nat.reduceAdd, List.map_cons, List.map_nil, List.cons_append, List.nil_append, List.replicate, Nat.reduceSub, beq_self_eq_true, lcOk, MT.slots, MT.slotss, List.all_cons, List.all_nil, List.contains_cons, List.contains_nil, Bool.true_or, Bool.or_true, Bool.or_false, Bool.false_or, Nat.reduceBEq, rng_len, List.length_map, it_tup, it_lst, is_tup, is_int, is_bl, is_lst, is_str, is_non, rv_tup, hx, E.sig, e, it_rng' (show n ≤ 1000000 by omega), lm_le (show n ≤ 1000000 by omega)]
  rw [rng_nats, compD_nats (g := fun p : Nat => if (deg ts S p % 2 == 1) = true then some (.int (p : Int)) else none)]
  · rw [filterMap_if]
    simp -dsimp only [w_int, w_bl, w_str, w_non, w_var, w_glb, w_tup, w_lst, w_bin, w_neg, w_not, w_cmp, w_chain, w_and, w_or, w_ife, w_ix, w_sl, w_slL, w_slH, w_slB, w_rev, w_call, w_blt, w_meth, w_isi, w_dsp, w_rngL, w_rngT, lcSrc, w_lc, w_es0, w_es1, w_ts0, w_ts1, w_asg, subO, w_asgSub, w_expr, w_ret, w_retN, w_ite, w_for, w_whl, w_pass, w_brk, w_cont, w_ss0, w_ss1, th_nx, th_ret, th_brk, th_cont, ob_some, br_t, br_f, qb_ok, qb_assoc, rd_s, rd_non, rd_bl, rd_int, rd_str, rd_tup, rd_lst, rd_fro, rd_dct, lookO, looks, on1, on2, intO, force, forces, forceQ, asgF, asgO, asgP, asgPs, Opd.v, ld_non, ld_bl, ld_int, ld_str, ld_tup, ld_lst, ld_fro, ld_dct, lk_non, lk_bl, lk_int, lk_str, lk_tup, lk_lst, lk_fro, lk_dct, lk_lck, clOf, finQ_ret, finQ_nx, exitQ, outsP, callP, argsP, backP,  List.getElem?_cons_zero, List.getElem?_cons_succ, List.set_cons_zero, List.set_cons_succ, Option.getD_some, Option.map_some, Option.bind_some, reduceCtorEq, ↓reduceIte, if_true, if_false, noRef, noRefs, emb, embs, tr_bl, tr_int, tr_non, tr_tup, tr_lst, bp_add, bp_sub, cp_eqI, cp_neI, cp_eqS, cp_neS, cp_lt, cp_le, cp_gt, cp_ge, cp_in, cp_notin, cp_isN, cp_isnN, isNon, mx_int, mn_int, ln_tup, ln_lst, ln_fro, tu_lst, tu_tup, li_tup, li_lst, in_bl, in_int, ix_tup', ix_lst', at_0, at_1, at_2, at_3, canP, Bool.not_true, Bool.not_false, Bool.false_eq_true, Bool.true_and, Bool.and_true, Bool.and_self, decide_true, decide_false, methO, Me.reads, kd_str', kd_tup', kd_lst', kd_dct', or_true, true_or, or_false, false_or, and_true, true_and, and_self, ne_eq, not_false_eq_true, not_true_eq_false, eq_self,  srcP, lockO, unlockO, restP, Option.join_some, lc_some, lc_t, lc_f, fs_some, wipeP, List.length_cons, List.length_nil, Nat.reduceAdd, List.map_cons, List.map_nil, List.cons_append, List.nil_append, List.replicate, Nat.reduceSub, beq_self_eq_true, lcOk, MT.slots, MT.slotss, List.all_cons, List.all_nil, List.contains_cons, List.contains_nil, Bool.true_or, Bool.or_true, Bool.or_false, Bool.false_or, Nat.reduceBEq, rng_len, List.length_map, it_tup, it_lst, is_tup, is_int, is_bl, is_lst, is_str, is_non, rv_tup, hx]
    rfl
  · intro p hp
    rw [List.mem_range] at hp
    have a1 : atI (endsP n ts S) (p : Int) = some (.int ((deg ts S p : Nat) : Int)) := at_mapR hp
    have m2 : binP .Mod (.int ((deg ts S p : Nat) : Int)) (.int 2) = some (.val (.int (((deg ts S p % 2 : Nat)) : Int))) := by rw [bp_mod (by decide)]; congr 3
    generalize endsP n ts S = K at a1
    by_cases c : deg ts S p % 2 = 1
    · rw [c] at m2
      simp -dsimp only [w_int, w_bl, w_str, w_non, w_var, w_glb, w_tup, w_lst, w_bin, w_neg, w_not, w_cmp, w_chain, w_and, w_or, w_ife, w_ix, w_sl, w_slL, w_slH, w_slB, w_rev, w_call, w_blt, w_meth, w_isi, w_dsp, w_rngL, w_rngT, lcSrc, w_lc, w_es0, w_es1, w_ts0, w_ts1, w_asg, subO, w_asgSub, w_expr, w_ret, w_retN, w_ite, w_for, w_whl, w_pass, w_brk, w_cont, w_ss0, w_ss1, th_nx, th_ret, th_brk, th_cont, ob_some, br_t, br_f, qb_ok, qb_assoc, rd_s, rd_non, rd_bl, rd_int, rd_str, rd_tup, rd_lst, rd_fro, rd_dct, lookO, looks, on1, on2, intO, force, forces, forceQ, asgF, asgO, asgP, asgPs, Opd.v, ld_non, ld_bl, ld_int, ld_str, ld_tup, ld_lst, ld_fro, ld_dct, lk_non, lk_bl, lk_int, lk_str, lk_tup, lk_lst, lk_fro, lk_dct, lk_lck, clOf, finQ_ret, finQ_nx, exitQ, outsP, callP, argsP, backP,  List.getElem?_cons_zero, List.getElem?_cons_succ, List.set_cons_zero, List.set_cons_succ, Option.getD_some, Option.map_some, Option.bind_some, reduceCtorEq, ↓reduceIte, if_true, if_false, noRef, noRefs, emb, embs, tr_bl, tr_int, tr_non, tr_tup, tr_lst, bp_add, bp_sub, cp_eqI, cp_neI, cp_eqS, cp_neS, cp_lt, cp_le, cp_gt, cp_ge, cp_in, cp_notin, cp_isN, cp_isnN, isNon, mx_int, mn_int, ln_tup, ln_lst, ln_fro, tu_lst, tu_tup, li_tup, li_lst, in_bl, in_int, ix_tup', ix_lst', at_0, at_1, at_2, at_3, canP, Bool.not_true, Bool.not_false, Bool.false_eq_true, Bool.true_and, Bool.and_true, Bool.and_self, decide_true, decide_false, methO, Me.reads, kd_str', kd_tup', kd_lst', kd_dct', or_true, true_or, or_false, false_or, and_true, true_and, and_self, ne_eq, not_false_eq_true, not_true_eq_false, eq_self,  srcP, lockO, unlockO, restP, Option.join_some, lc_some, lc_t, lc_f, fs_some, wipeP, List.length_cons, List.length_nil, Nat.reduceAdd, List.map_cons, List.map_nil, List.cons_append, List.nil_append, List.replicate, Nat.reduceSub, beq_self_eq_true, lcOk, MT.slots, MT.slotss, List.all_cons, List.all_nil, List.contains_cons, List.contains_nil, Bool.true_or, Bool.or_true, Bool.or_false, Bool.false_or, Nat.reduceBEq, rng_len, List.length_map, it_tup, it_lst, is_tup, is_int, is_bl, is_lst, is_str, is_non, rv_tup, hx, a1, m2, c, show (((1 : Nat) : Int) == 1) = true from rfl]
      exact .ok ⟨rfl, rfl⟩
    · have c0 : deg ts S p % 2 = 0 := by omega
      rw [c0] at m2
      simp -dsimp only [w_int, w_bl, w_str, w_non, w_var, w_glb, w_tup, w_lst, w_bin, w_neg, w_not, w_cmp, w_chain, w_and, w_or, w_ife, w_ix, w_sl, w_slL, w_slH, w_slB, w_rev, w_call, w_blt, w_meth, w_isi, w_dsp, w_rngL, w_rngT, lcSrc, w_lc, w_es0, w_es1, w_ts0, w_ts1, w_asg, subO, w_asgSub, w_expr, w_ret, w_retN, w_ite, w_for, w_whl, w_pass, w_brk, w_cont, w_ss0, w_ss1, th_nx, th_ret, th_brk, th_cont, ob_some, br_t, br_f, qb_ok, qb_assoc, rd_s, rd_non, rd_bl, rd_int, rd_str, rd_tup, rd_lst, rd_fro, rd_dct, lookO, looks, on1, on2, intO, force, forces, forceQ, asgF, asgO, asgP, asgPs, Opd.v, ld_non, ld_bl, ld_int, ld_str, ld_tup, ld_lst, ld_fro, ld_dct, lk_non, lk_bl, lk_int, lk_str, lk_tup, lk_lst, lk_fro, lk_dct, lk_lck, clOf, finQ_ret, finQ_nx, exitQ, outsP, callP, argsP, backP,  List.getElem?_cons_zero, List.getElem?_cons_succ, List.set_cons_zero, List.set_cons_succ, Option.getD_some, Option.map_some, Option.bind_some, reduceCtorEq, ↓reduceIte, if_true, if_false, noRef, noRefs, emb, embs, tr_bl, tr_int, tr_non, tr_tup, tr_lst, bp_add, bp_sub, cp_eqI, cp_neI, cp_eqS, cp_neS, cp_lt, cp_le, cp_gt, cp_ge, cp_in, cp_notin, cp_isN, cp_isnN, isNon, mx_int, mn_int, ln_tup, ln_lst, ln_fro, tu_lst, tu_tup, li_tup, li_lst, in_bl, in_int, ix_tup', ix_lst', at_0, at_1, at_2, at_3, canP, Bool.not_true, Bool.not_false, Bool.false_eq_true, Bool.true_and, Bool.and_true, Bool.and_self, decide_true, decide_false, methO, Me.reads, kd_str', kd_tup', kd_lst', kd_dct', or_true, true_or, or_false, false_or, and_true, true_and, and_self, ne_eq, not_false_eq_true, not_true_eq_false, eq_self,  srcP, lockO, unlockO, restP, Option.join_some, lc_some, lc_t, lc_f, fs_some, wipeP, List.length_cons, List.length_nil, Nat.reduceAdd, List.map_cons, List.map_nil, List.cons_append, List.nil_append, List.replicate, Nat.reduceSub, beq_self_eq_true, lcOk, MT.slots, MT.slotss, List.all_cons, List.all_nil, List.contains_cons, List.contains_nil, Bool.true_or, Bool.or_true, Bool.or_false, Bool.false_or, Nat.reduceBEq, rng_len, List.length_map, it_tup, it_lst, is_tup, is_int, is_bl, is_lst, is_str, is_non, rv_tup, hx, a1, m2, c0, show (((0 : Nat) : Int) == 1) = false from rfl, show ((0 : Nat) == 1) = false from rfl]
      exact .ok ⟨rfl, rfl⟩
theorem sum_ints {α : Type} {L : List α} {f : α → Int} : bltP .sum [.lst (L.map fun a => .int (f a))] = some (.val (.int (L.map f).sum)) := by
  have : allIntsP (L.map fun a => PV.int (f a)) = some (L.map f) := by
    induction L with
    | nil => rfl
    | cons a L ih => simp only [List.map_cons, allIntsP, ih]; rfl
  simp only [bltP, lstsP, Option.bind_some, this, Option.map_some]
def paid (ts : List AT) (S : List Nat) : Int := (S.map fun k => (tat ts k).2.2).sum
/-- what a set of ties costs; the program's and the laws' own text -/
structure Paid (X : CQ) (f : Str) : Prop where
  sig : X.sig f = some ([.pl, .pl], false)
  call : ∀ n ts S, S.length ≤ 100000 → (∀ s ∈ S, s < ts.length) → X.call f [webV n ts, .tup (natsP S)] = .ok (.val (.int (paid ts S))) [webV n ts, .tup (natsP S)]
theorem paid_ok {Γ : Str → Option FP} {gl : Str → Option MV} {W d : Nat} {c : Nat → Cls} {f : Str} (g : Γ f = some p_price_of) : Paid ⟨runP Γ gl W (d + 1), sigP Γ, c, gl, W⟩ f := by
  refine ⟨sig_eq g, fun n ts S hl hS => ?_⟩
  dsimp only
  rw [run_eq g rfl rfl]
  generalize hX : (⟨runP Γ gl W d, sigP Γ, clOf [.sh, .sh, .sh], gl, W⟩ : CQ) = X
  have hx : X.cl = clOf [.sh, .sh, .sh] := by rw [← hX]
  simp only [b_price_of, webV]
  have ln : (natsP S).length = S.length := by simp [natsP]
  simp -dsimp only [w_int, w_bl, w_str, w_non, w_var, w_glb, w_tup, w_lst, w_bin, w_neg, w_not, w_cmp, w_chain, w_and, w_or, w_ife, w_ix, w_sl, w_slL, w_slH, w_slB, w_rev, w_call, w_blt, w_meth, w_isi, w_dsp, w_rngL, w_rngT, lcSrc, w_lc, w_es0, w_es1, w_ts0, w_ts1, w_asg, subO, w_asgSub, w_expr, w_ret, w_retN, w_ite, w_for, w_whl, w_pass, w_brk, w_cont, w_ss0, w_ss1, th_nx, th_ret, th_brk, th_cont, ob_some, br_t, br_f, qb_ok, qb_assoc, rd_s, rd_non, rd_bl, rd_int, rd_str, rd_tup, rd_lst, rd_fro, rd_dct, lookO, looks, on1, on2, intO, force, forces, forceQ, asgF, asgO, asgP, asgPs, Opd.v, ld_non, ld_bl, ld_int, ld_str, ld_tup, ld_lst, ld_fro, ld_dct, lk_non, lk_bl, lk_int, lk_str, lk_tup, lk_lst, lk_fro, lk_dct, lk_lck, clOf, finQ_ret, finQ_nx, exitQ, outsP, callP, argsP, backP,  List.getElem?_cons_zero, List.getElem?_cons_succ, List.set_cons_zero, List.set_cons_succ, Option.getD_some, Option.map_some, Option.bind_some, reduceCtorEq, ↓reduceIte, if_true, if_false, noRef, noRefs, emb, embs, tr_bl, tr_int, tr_non, tr_tup, tr_lst, bp_add, bp_sub, cp_eqI, cp_neI, cp_eqS, cp_neS, cp_lt, cp_le, cp_gt, cp_ge, cp_in, cp_notin, cp_isN, cp_isnN, isNon, mx_int, mn_int, ln_tup, ln_lst, ln_fro, tu_lst, tu_tup, li_tup, li_lst, in_bl, in_int, ix_tup', ix_lst', at_0, at_1, at_2, at_3, canP, Bool.not_true, Bool.not_false, Bool.false_eq_true, Bool.true_and, Bool.and_true, Bool.and_self, decide_true, decide_false, methO, Me.reads, kd_str', kd_tup', kd_lst', kd_dct', or_true, true_or, or_false, false_or, and_true, true_and, and_self, ne_eq, not_false_eq_true, not_true_eq_false, eq_self,  srcP, lockO, unlockO, restP, Option.join_some, lc_some, lc_t, lc_f, fs_some, wipeP, List.length_cons, List.length_nil, Nat.reduceAdd, List.map_cons, List.map_nil, List.cons_append, List.nil_append, List.replicate, Nat.reduceSub, beq_self_eq_true, lcOk, MT.slots, MT.slotss, List.all_cons, List.all_nil, List.contains_cons, List.contains_nil, Bool.true_or, Bool.or_true, Bool.or_false, Bool.false_or, Nat.reduceBEq, rng_len, List.length_map, it_tup, it_lst, is_tup, is_int, is_bl, is_lst, is_str, is_non, rv_tup, hx, ln, lm_le (show S.length ≤ 1000000 by omega)]
  rw [compD_nats (g := fun k : Nat => some (.int (tat ts k).2.2))]
  · have em : S.filterMap (fun k : Nat => some (PV.int (tat ts k).2.2)) = S.map fun k : Nat => PV.int (tat ts k).2.2 := by rw [← List.filterMap_eq_map]; rfl
    have es := sum_ints (L := S) (f := fun k : Nat => (tat ts k).2.2)
    rw [em]
    simp -dsimp only [w_int, w_bl, w_str, w_non, w_var, w_glb, w_tup, w_lst, w_bin, w_neg, w_not, w_cmp, w_chain, w_and, w_or, w_ife, w_ix, w_sl, w_slL, w_slH, w_slB, w_rev, w_call, w_blt, w_meth, w_isi, w_dsp, w_rngL, w_rngT, lcSrc, w_lc, w_es0, w_es1, w_ts0, w_ts1, w_asg, subO, w_asgSub, w_expr, w_ret, w_retN, w_ite, w_for, w_whl, w_pass, w_brk, w_cont, w_ss0, w_ss1, th_nx, th_ret, th_brk, th_cont, ob_some, br_t, br_f, qb_ok, qb_assoc, rd_s, rd_non, rd_bl, rd_int, rd_str, rd_tup, rd_lst, rd_fro, rd_dct, lookO, looks, on1, on2, intO, force, forces, forceQ, asgF, asgO, asgP, asgPs, Opd.v, ld_non, ld_bl, ld_int, ld_str, ld_tup, ld_lst, ld_fro, ld_dct, lk_non, lk_bl, lk_int, lk_str, lk_tup, lk_lst, lk_fro, lk_dct, lk_lck, clOf, finQ_ret, finQ_nx, exitQ, outsP, callP, argsP, backP,  List.getElem?_cons_zero, List.getElem?_cons_succ, List.set_cons_zero, List.set_cons_succ, Option.getD_some, Option.map_some, Option.bind_some, reduceCtorEq, ↓reduceIte, if_true, if_false, noRef, noRefs, emb, embs, tr_bl, tr_int, tr_non, tr_tup, tr_lst, bp_add, bp_sub, cp_eqI, cp_neI, cp_eqS, cp_neS, cp_lt, cp_le, cp_gt, cp_ge, cp_in, cp_notin, cp_isN, cp_isnN, isNon, mx_int, mn_int, ln_tup, ln_lst, ln_fro, tu_lst, tu_tup, li_tup, li_lst, in_bl, in_int, ix_tup', ix_lst', at_0, at_1, at_2, at_3, canP, Bool.not_true, Bool.not_false, Bool.false_eq_true, Bool.true_and, Bool.and_true, Bool.and_self, decide_true, decide_false, methO, Me.reads, kd_str', kd_tup', kd_lst', kd_dct', or_true, true_or, or_false, false_or, and_true, true_and, and_self, ne_eq, not_false_eq_true, not_true_eq_false, eq_self,  srcP, lockO, unlockO, restP, Option.join_some, lc_some, lc_t, lc_f, fs_some, wipeP, List.length_cons, List.length_nil, Nat.reduceAdd, List.map_cons, List.map_nil, List.cons_append, List.nil_append, List.replicate, Nat.reduceSub, beq_self_eq_true, lcOk, MT.slots, MT.slotss, List.all_cons, List.all_nil, List.contains_cons, List.contains_nil, Bool.true_or, Bool.or_true, Bool.or_false, Bool.false_or, Nat.reduceBEq, rng_len, List.length_map, it_tup, it_lst, is_tup, is_int, is_bl, is_lst, is_str, is_non, rv_tup, hx, es]
    rfl
  · intro k hk
    have ta := tie_at (hS k hk)
    simp -dsimp only [w_int, w_bl, w_str, w_non, w_var, w_glb, w_tup, w_lst, w_bin, w_neg, w_not, w_cmp, w_chain, w_and, w_or, w_ife, w_ix, w_sl, w_slL, w_slH, w_slB, w_rev, w_call, w_blt, w_meth, w_isi, w_dsp, w_rngL, w_rngT, lcSrc, w_lc, w_es0, w_es1, w_ts0, w_ts1, w_asg, subO, w_asgSub, w_expr, w_ret, w_retN, w_ite, w_for, w_whl, w_pass, w_brk, w_cont, w_ss0, w_ss1, th_nx, th_ret, th_brk, th_cont, ob_some, br_t, br_f, qb_ok, qb_assoc, rd_s, rd_non, rd_bl, rd_int, rd_str, rd_tup, rd_lst, rd_fro, rd_dct, lookO, looks, on1, on2, intO, force, forces, forceQ, asgF, asgO, asgP, asgPs, Opd.v, ld_non, ld_bl, ld_int, ld_str, ld_tup, ld_lst, ld_fro, ld_dct, lk_non, lk_bl, lk_int, lk_str, lk_tup, lk_lst, lk_fro, lk_dct, lk_lck, clOf, finQ_ret, finQ_nx, exitQ, outsP, callP, argsP, backP,  List.getElem?_cons_zero, List.getElem?_cons_succ, List.set_cons_zero, List.set_cons_succ, Option.getD_some, Option.map_some, Option.bind_some, reduceCtorEq, ↓reduceIte, if_true, if_false, noRef, noRefs, emb, embs, tr_bl, tr_int, tr_non, tr_tup, tr_lst, bp_add, bp_sub, cp_eqI, cp_neI, cp_eqS, cp_neS, cp_lt, cp_le, cp_gt, cp_ge, cp_in, cp_notin, cp_isN, cp_isnN, isNon, mx_int, mn_int, ln_tup, ln_lst, ln_fro, tu_lst, tu_tup, li_tup, li_lst, in_bl, in_int, ix_tup', ix_lst', at_0, at_1, at_2, at_3, canP, Bool.not_true, Bool.not_false, Bool.false_eq_true, Bool.true_and, Bool.and_true, Bool.and_self, decide_true, decide_false, methO, Me.reads, kd_str', kd_tup', kd_lst', kd_dct', or_true, true_or, or_false, false_or, and_true, true_and, and_self, ne_eq, not_false_eq_true, not_true_eq_false, eq_self,  srcP, lockO, unlockO, restP, Option.join_some, lc_some, lc_t, lc_f, fs_some, wipeP, List.length_cons, List.length_nil, Nat.reduceAdd, List.map_cons, List.map_nil, List.cons_append, List.nil_append, List.replicate, Nat.reduceSub, beq_self_eq_true, lcOk, MT.slots, MT.slotss, List.all_cons, List.all_nil, List.contains_cons, List.contains_nil, Bool.true_or, Bool.or_true, Bool.or_false, Bool.false_or, Nat.reduceBEq, rng_len, List.length_map, it_tup, it_lst, is_tup, is_int, is_bl, is_lst, is_str, is_non, rv_tup, hx, ta]
    exact .ok ⟨rfl, rfl⟩
theorem in_nats {a : Nat} {S : List Nat} : cmpP .In (.int (a : Int)) (.tup (natsP S)) = some (decide (a ∈ S)) := by
  have fl : ∀ S : List Nat, (natsP S).all flatP = true := fun S => by simp [natsP, flatP]
  simp only [cmpP, inP, flatP, fl, Bool.and_self, if_true]
  congr 1
  induction S with
  | nil => rfl
  | cons s S ih =>
    simp only [natsP, List.map_cons, List.any_cons] at ih ⊢
    rw [ih]
    have : eqFP (.int (s : Int)) (.int (a : Int)) = decide (a = s) := by
      simp only [eqFP, dP, PyData.eqv]
      by_cases c : a = s
      · subst c; simp
      · rw [decide_eq_false c]; simp; omega
    rw [this]
    simp
theorem ne_bl {a b : Bool} : cmpP .NotEq (.bl a) (.bl b) = some (a != b) := by
  cases a <;> cases b <;> decide
theorem eq_bl {a b : Bool} : cmpP .Eq (.bl a) (.bl b) = some (a == b) := by
  cases a <;> cases b <;> decide
def cutB (t : AT) (D : List Nat) : Bool := decide (t.1 ∈ D) != decide (t.2.1 ∈ D)
def cutS (ts : List AT) (D : List Nat) : List Nat := (List.range ts.length).filter fun k => cutB (tat ts k) D
theorem enum_at {ts : List AT} {i : Nat} {v : PV} (h : (enumP (ts.map tieV))[i]? = some v) : i < ts.length ∧ v = .tup [.int i, .tup [.int (tat ts i).1, .int (tat ts i).2.1, .int (tat ts i).2.2]] := by
  simp only [enumP, List.getElem?_mapIdx, List.getElem?_map] at h
  by_cases c : i < ts.length
  · rw [List.getElem?_eq_getElem c] at h
    simp only [Option.map_some, Option.some.injEq] at h
    exact ⟨c, by rw [← h, tat_at c]; rfl⟩
  · rw [List.getElem?_eq_none (by omega)] at h
    simp at h
structure Cut (X : CQ) : Prop where
  sig : X.sig "cut_of" = some ([.pl, .pl], false)
  call : ∀ n ts D, ts.length ≤ 10000 → X.call "cut_of" [webV n ts, .tup (natsP D)] = .ok (.val (.tup (natsP (cutS ts D)))) [webV n ts, .tup (natsP D)]
theorem cut_ok {Γ : Str → Option FP} {gl : Str → Option MV} {W d : Nat} {c : Nat → Cls} (g : Γ "cut_of" = some p_cut_of) : Cut ⟨runP Γ gl W (d + 1), sigP Γ, c, gl, W⟩ := by
  refine ⟨sig_eq g, fun n ts D hl => ?_⟩
  dsimp only
  rw [run_eq g rfl rfl]
  generalize hX : (⟨runP Γ gl W d, sigP Γ, clOf [.sh, .sh, .ow, .sh, .sh], gl, W⟩ : CQ) = X
  have hx : X.cl = clOf [.sh, .sh, .ow, .sh, .sh] := by rw [← hX]
  have fin : Evo (finQ [.pl, .pl] false [webV n ts, .tup (natsP D)] (evTs' X b_cut_of [some (webV n ts), some (.tup (natsP D)), none, none, none])) fun o ios => o = .val (.tup (natsP (cutS ts D))) ∧ ios = [webV n ts, .tup (natsP D)] := by
    refine finQ_ev ?_
    simp only [b_cut_of, webV]
    simp -dsimp only [w_int, w_bl, w_str, w_non, w_var, w_glb, w_tup, w_lst, w_bin, w_neg, w_not, w_cmp, w_chain, w_and, w_or, w_ife, w_ix, w_sl, w_slL, w_slH, w_slB, w_rev, w_call, w_blt, w_meth, w_isi, w_dsp, w_rngL, w_rngT, lcSrc, w_lc, w_es0, w_es1, w_ts0, w_ts1, w_asg, subO, w_asgSub, w_expr, w_ret, w_retN, w_ite, w_for, w_whl, w_pass, w_brk, w_cont, w_ss0, w_ss1, th_nx, th_ret, th_brk, th_cont, ob_some, br_t, br_f, qb_ok, qb_assoc, rd_s, rd_non, rd_bl, rd_int, rd_str, rd_tup, rd_lst, rd_fro, rd_dct, lookO, looks, on1, on2, intO, force, forces, forceQ, asgF, asgO, asgP, asgPs, Opd.v, ld_non, ld_bl, ld_int, ld_str, ld_tup, ld_lst, ld_fro, ld_dct, lk_non, lk_bl, lk_int, lk_str, lk_tup, lk_lst, lk_fro, lk_dct, lk_lck, clOf, finQ_ret, finQ_nx, exitQ, outsP, callP, argsP, backP,  List.getElem?_cons_zero, List.getElem?_cons_succ, List.set_cons_zero, List.set_cons_succ, Option.getD_some, Option.map_some, Option.bind_some, reduceCtorEq, ↓reduceIte, if_true, if_false, noRef, noRefs, emb, embs, tr_bl, tr_int, tr_non, tr_tup, tr_lst, bp_add, bp_sub, cp_eqI, cp_neI, cp_eqS, cp_neS, cp_lt, cp_le, cp_gt, cp_ge, cp_in, cp_notin, cp_isN, cp_isnN, isNon, mx_int, mn_int, ln_tup, ln_lst, ln_fro, tu_lst, tu_tup, li_tup, li_lst, in_bl, in_int, ix_tup', ix_lst', at_0, at_1, at_2, at_3, canP, Bool.not_true, Bool.not_false, Bool.false_eq_true, Bool.true_and, Bool.and_true, Bool.and_self, decide_true, decide_false, methO, Me.reads, kd_str', kd_tup', kd_lst', kd_dct', or_true, true_or, or_false, false_or, and_true, true_and, and_self, ne_eq, not_false_eq_true, not_true_eq_false, eq_self,  srcP, lockO, unlockO, restP, Option.join_some, lc_some, lc_t, lc_f, fs_some, wipeP, List.length_cons, List.length_nil, Nat.reduceAdd, List.map_cons, List.map_nil, List.cons_append, List.nil_append, List.replicate, Nat.reduceSub, beq_self_eq_true, lcOk, MT.slots, MT.slotss, List.all_cons, List.all_nil, List.contains_cons, List.contains_nil, Bool.true_or, Bool.or_true, Bool.or_false, Bool.false_or, Nat.reduceBEq, rng_len, List.length_map, it_tup, it_lst, is_tup, is_int, is_bl, is_lst, is_str, is_non, rv_tup, hx, it_etup]
    refine .bnd ((forD_inv (fun i σ => ∃ x3 x4, σ = [some (.tup [.int n, .tup (ts.map tieV)]), some (.tup (natsP D)), some (.lst (natsP ((List.range i).filter fun k => cutB (tat ts k) D))), x3, x4]) ⟨_, _, rfl⟩ ?_).imp ?_)
    · rintro i v σ hi ⟨x3, x4, rfl⟩
      obtain ⟨hi2, rfl⟩ := enum_at hi
      have i1 := in_nats (a := (tat ts i).1) (S := D)
      have i2 := in_nats (a := (tat ts i).2.1) (S := D)
      simp only [cp_in] at i1 i2
      rw [List.range_succ, List.filter_append]
      have ll : (natsP ((List.range i).filter fun k => cutB (tat ts k) D)).length < 1000000 := by
        have := List.length_filter_le (fun k => cutB (tat ts k) D) (List.range i)
        simp only [natsP, List.length_map, List.length_range] at this ⊢
        omega
      generalize (List.range i).filter (fun k => cutB (tat ts k) D) = K at ll
      have cb : cutB (tat ts i) D = (decide ((tat ts i).1 ∈ D) != decide ((tat ts i).2.1 ∈ D)) := rfl
      simp -dsimp only [asgP, asgPs, clOf, fs_some, lc_some, List.getElem?_cons_zero, List.getElem?_cons_succ, List.set_cons_zero, List.set_cons_succ, Option.getD_some, Option.bind_some, Option.map_some, reduceCtorEq, ↓reduceIte, List.length_cons, List.length_nil, ld_int, ld_tup, ld_bl, ld_str, ld_non, isLD, hx]
      cases hc : cutB (tat ts i) D
      · rw [hc] at cb
        simp -dsimp only [w_int, w_bl, w_str, w_non, w_var, w_glb, w_tup, w_lst, w_bin, w_neg, w_not, w_cmp, w_chain, w_and, w_or, w_ife, w_ix, w_sl, w_slL, w_slH, w_slB, w_rev, w_call, w_blt, w_meth, w_isi, w_dsp, w_rngL, w_rngT, lcSrc, w_lc, w_es0, w_es1, w_ts0, w_ts1, w_asg, subO, w_asgSub, w_expr, w_ret, w_retN, w_ite, w_for, w_whl, w_pass, w_brk, w_cont, w_ss0, w_ss1, th_nx, th_ret, th_brk, th_cont, ob_some, br_t, br_f, qb_ok, qb_assoc, rd_s, rd_non, rd_bl, rd_int, rd_str, rd_tup, rd_lst, rd_fro, rd_dct, lookO, looks, on1, on2, intO, force, forces, forceQ, asgF, asgO, asgP, asgPs, Opd.v, ld_non, ld_bl, ld_int, ld_str, ld_tup, ld_lst, ld_fro, ld_dct, lk_non, lk_bl, lk_int, lk_str, lk_tup, lk_lst, lk_fro, lk_dct, lk_lck, clOf, finQ_ret, finQ_nx, exitQ, outsP, callP, argsP, backP,  List.getElem?_cons_zero, List.getElem?_cons_succ, List.set_cons_zero, List.set_cons_succ, Option.getD_some, Option.map_some, Option.bind_some, reduceCtorEq, ↓reduceIte, if_true, if_false, noRef, noRefs, emb, embs, tr_bl, tr_int, tr_non, tr_tup, tr_lst, bp_add, bp_sub, cp_eqI, cp_neI, cp_eqS, cp_neS, cp_lt, cp_le, cp_gt, cp_ge, cp_in, cp_notin, cp_isN, cp_isnN, isNon, mx_int, mn_int, ln_tup, ln_lst, ln_fro, tu_lst, tu_tup, li_tup, li_lst, in_bl, in_int, ix_tup', ix_lst', at_0, at_1, at_2, at_3, canP, Bool.not_true, Bool.not_false, Bool.false_eq_true, Bool.true_and, Bool.and_true, Bool.and_self, decide_true, decide_false, methO, Me.reads, kd_str', kd_tup', kd_lst', kd_dct', or_true, true_or, or_false, false_or, and_true, true_and, and_self, ne_eq, not_false_eq_true, not_true_eq_false, eq_self,  srcP, lockO, unlockO, restP, Option.join_some, lc_some, lc_t, lc_f, fs_some, wipeP, List.length_cons, List.length_nil, Nat.reduceAdd, List.map_cons, List.map_nil, List.cons_append, List.nil_append, List.replicate, Nat.reduceSub, beq_self_eq_true, lcOk, MT.slots, MT.slotss, List.all_cons, List.all_nil, List.contains_cons, List.contains_nil, Bool.true_or, Bool.or_true, Bool.or_false, Bool.false_or, Nat.reduceBEq, rng_len, List.length_map, it_tup, it_lst, is_tup, is_int, is_bl, is_lst, is_str, is_non, rv_tup, hx, i1, i2, ne_bl, ← cb]
        exact .ok ⟨.inl rfl, _, _, by simp [hc]; exact ⟨rfl, rfl⟩⟩
      · rw [hc] at cb
        simp -dsimp only [w_int, w_bl, w_str, w_non, w_var, w_glb, w_tup, w_lst, w_bin, w_neg, w_not, w_cmp, w_chain, w_and, w_or, w_ife, w_ix, w_sl, w_slL, w_slH, w_slB, w_rev, w_call, w_blt, w_meth, w_isi, w_dsp, w_rngL, w_rngT, lcSrc, w_lc, w_es0, w_es1, w_ts0, w_ts1, w_asg, subO, w_asgSub, w_expr, w_ret, w_retN, w_ite, w_for, w_whl, w_pass, w_brk, w_cont, w_ss0, w_ss1, th_nx, th_ret, th_brk, th_cont, ob_some, br_t, br_f, qb_ok, qb_assoc, rd_s, rd_non, rd_bl, rd_int, rd_str, rd_tup, rd_lst, rd_fro, rd_dct, lookO, looks, on1, on2, intO, force, forces, forceQ, asgF, asgO, asgP, asgPs, Opd.v, ld_non, ld_bl, ld_int, ld_str, ld_tup, ld_lst, ld_fro, ld_dct, lk_non, lk_bl, lk_int, lk_str, lk_tup, lk_lst, lk_fro, lk_dct, lk_lck, clOf, finQ_ret, finQ_nx, exitQ, outsP, callP, argsP, backP,  List.getElem?_cons_zero, List.getElem?_cons_succ, List.set_cons_zero, List.set_cons_succ, Option.getD_some, Option.map_some, Option.bind_some, reduceCtorEq, ↓reduceIte, if_true, if_false, noRef, noRefs, emb, embs, tr_bl, tr_int, tr_non, tr_tup, tr_lst, bp_add, bp_sub, cp_eqI, cp_neI, cp_eqS, cp_neS, cp_lt, cp_le, cp_gt, cp_ge, cp_in, cp_notin, cp_isN, cp_isnN, isNon, mx_int, mn_int, ln_tup, ln_lst, ln_fro, tu_lst, tu_tup, li_tup, li_lst, in_bl, in_int, ix_tup', ix_lst', at_0, at_1, at_2, at_3, canP, Bool.not_true, Bool.not_false, Bool.false_eq_true, Bool.true_and, Bool.and_true, Bool.and_self, decide_true, decide_false, methO, Me.reads, kd_str', kd_tup', kd_lst', kd_dct', or_true, true_or, or_false, false_or, and_true, true_and, and_self, ne_eq, not_false_eq_true, not_true_eq_false, eq_self,  srcP, lockO, unlockO, restP, Option.join_some, lc_some, lc_t, lc_f, fs_some, wipeP, List.length_cons, List.length_nil, Nat.reduceAdd, List.map_cons, List.map_nil, List.cons_append, List.nil_append, List.replicate, Nat.reduceSub, beq_self_eq_true, lcOk, MT.slots, MT.slotss, List.all_cons, List.all_nil, List.contains_cons, List.contains_nil, Bool.true_or, Bool.or_true, Bool.or_false, Bool.false_or, Nat.reduceBEq, rng_len, List.length_map, it_tup, it_lst, is_tup, is_int, is_bl, is_lst, is_str, is_non, rv_tup, hx, i1, i2, ne_bl, ← cb, app_at ll]
        exact .ok ⟨.inl rfl, _, _, by simp [hc, natsP]; exact ⟨rfl, rfl⟩⟩
    · rintro fl σ ⟨rfl, x3, x4, rfl⟩
      have ll : (enumP (ts.map tieV)).length = ts.length := by simp [enumP]
      rw [ll]
      simp -dsimp only [w_int, w_bl, w_str, w_non, w_var, w_glb, w_tup, w_lst, w_bin, w_neg, w_not, w_cmp, w_chain, w_and, w_or, w_ife, w_ix, w_sl, w_slL, w_slH, w_slB, w_rev, w_call, w_blt, w_meth, w_isi, w_dsp, w_rngL, w_rngT, lcSrc, w_lc, w_es0, w_es1, w_ts0, w_ts1, w_asg, subO, w_asgSub, w_expr, w_ret, w_retN, w_ite, w_for, w_whl, w_pass, w_brk, w_cont, w_ss0, w_ss1, th_nx, th_ret, th_brk, th_cont, ob_some, br_t, br_f, qb_ok, qb_assoc, rd_s, rd_non, rd_bl, rd_int, rd_str, rd_tup, rd_lst, rd_fro, rd_dct, lookO, looks, on1, on2, intO, force, forces, forceQ, asgF, asgO, asgP, asgPs, Opd.v, ld_non, ld_bl, ld_int, ld_str, ld_tup, ld_lst, ld_fro, ld_dct, lk_non, lk_bl, lk_int, lk_str, lk_tup, lk_lst, lk_fro, lk_dct, lk_lck, clOf, finQ_ret, finQ_nx, exitQ, outsP, callP, argsP, backP,  List.getElem?_cons_zero, List.getElem?_cons_succ, List.set_cons_zero, List.set_cons_succ, Option.getD_some, Option.map_some, Option.bind_some, reduceCtorEq, ↓reduceIte, if_true, if_false, noRef, noRefs, emb, embs, tr_bl, tr_int, tr_non, tr_tup, tr_lst, bp_add, bp_sub, cp_eqI, cp_neI, cp_eqS, cp_neS, cp_lt, cp_le, cp_gt, cp_ge, cp_in, cp_notin, cp_isN, cp_isnN, isNon, mx_int, mn_int, ln_tup, ln_lst, ln_fro, tu_lst, tu_tup, li_tup, li_lst, in_bl, in_int, ix_tup', ix_lst', at_0, at_1, at_2, at_3, canP, Bool.not_true, Bool.not_false, Bool.false_eq_true, Bool.true_and, Bool.and_true, Bool.and_self, decide_true, decide_false, methO, Me.reads, kd_str', kd_tup', kd_lst', kd_dct', or_true, true_or, or_false, false_or, and_true, true_and, and_self, ne_eq, not_false_eq_true, not_true_eq_false, eq_self,  srcP, lockO, unlockO, restP, Option.join_some, lc_some, lc_t, lc_f, fs_some, wipeP, List.length_cons, List.length_nil, Nat.reduceAdd, List.map_cons, List.map_nil, List.cons_append, List.nil_append, List.replicate, Nat.reduceSub, beq_self_eq_true, lcOk, MT.slots, MT.slotss, List.all_cons, List.all_nil, List.contains_cons, List.contains_nil, Bool.true_or, Bool.or_true, Bool.or_false, Bool.false_or, Nat.reduceBEq, rng_len, List.length_map, it_tup, it_lst, is_tup, is_int, is_bl, is_lst, is_str, is_non, rv_tup, hx]
      refine .ok (.ret ?_)
      simp -dsimp only [w_int, w_bl, w_str, w_non, w_var, w_glb, w_tup, w_lst, w_bin, w_neg, w_not, w_cmp, w_chain, w_and, w_or, w_ife, w_ix, w_sl, w_slL, w_slH, w_slB, w_rev, w_call, w_blt, w_meth, w_isi, w_dsp, w_rngL, w_rngT, lcSrc, w_lc, w_es0, w_es1, w_ts0, w_ts1, w_asg, subO, w_asgSub, w_expr, w_ret, w_retN, w_ite, w_for, w_whl, w_pass, w_brk, w_cont, w_ss0, w_ss1, th_nx, th_ret, th_brk, th_cont, ob_some, br_t, br_f, qb_ok, qb_assoc, rd_s, rd_non, rd_bl, rd_int, rd_str, rd_tup, rd_lst, rd_fro, rd_dct, lookO, looks, on1, on2, intO, force, forces, forceQ, asgF, asgO, asgP, asgPs, Opd.v, ld_non, ld_bl, ld_int, ld_str, ld_tup, ld_lst, ld_fro, ld_dct, lk_non, lk_bl, lk_int, lk_str, lk_tup, lk_lst, lk_fro, lk_dct, lk_lck, clOf, finQ_ret, finQ_nx, exitQ, outsP, callP, argsP, backP,  List.getElem?_cons_zero, List.getElem?_cons_succ, List.set_cons_zero, List.set_cons_succ, Option.getD_some, Option.map_some, Option.bind_some, reduceCtorEq, ↓reduceIte, if_true, if_false, noRef, noRefs, emb, embs, tr_bl, tr_int, tr_non, tr_tup, tr_lst, bp_add, bp_sub, cp_eqI, cp_neI, cp_eqS, cp_neS, cp_lt, cp_le, cp_gt, cp_ge, cp_in, cp_notin, cp_isN, cp_isnN, isNon, mx_int, mn_int, ln_tup, ln_lst, ln_fro, tu_lst, tu_tup, li_tup, li_lst, in_bl, in_int, ix_tup', ix_lst', at_0, at_1, at_2, at_3, canP, Bool.not_true, Bool.not_false, Bool.false_eq_true, Bool.true_and, Bool.and_true, Bool.and_self, decide_true, decide_false, methO, Me.reads, kd_str', kd_tup', kd_lst', kd_dct', or_true, true_or, or_false, false_or, and_true, true_and, and_self, ne_eq, not_false_eq_true, not_true_eq_false, eq_self,  srcP, lockO, unlockO, restP, Option.join_some, lc_some, lc_t, lc_f, fs_some, wipeP, List.length_cons, List.length_nil, Nat.reduceAdd, List.map_cons, List.map_nil, List.cons_append, List.nil_append, List.replicate, Nat.reduceSub, beq_self_eq_true, lcOk, MT.slots, MT.slotss, List.all_cons, List.all_nil, List.contains_cons, List.contains_nil, Bool.true_or, Bool.or_true, Bool.or_false, Bool.false_or, Nat.reduceBEq, rng_len, List.length_map, it_tup, it_lst, is_tup, is_int, is_bl, is_lst, is_str, is_non, rv_tup]
      exact .ok ⟨rfl, rfl⟩
  obtain ⟨o, ios, e, rfl, rfl⟩ := fin
  exact e
structure Many (X : CQ) : Prop where
  sig : X.sig "many_ends" = some ([.pl], false)
  call : ∀ n ts b, n ≤ 1000 → ts.length ≤ 10000 → (∀ t ∈ ts, okA b n t) → X.call "many_ends" [webV n ts] = .ok (.val (.tup (endsP n ts (List.range ts.length)))) [webV n ts]
theorem many_ok {Γ : Str → Option FP} {gl : Str → Option MV} {W d : Nat} {c : Nat → Cls} (g : Γ "many_ends" = some p_many_ends) (E : ∀ c, Ends ⟨runP Γ gl W d, sigP Γ, c, gl, W⟩) : Many ⟨runP Γ gl W (d + 1), sigP Γ, c, gl, W⟩ := by
  refine ⟨sig_eq g, fun n ts b hn hl ok => ?_⟩
  dsimp only
  rw [run_eq g rfl rfl]
  generalize hX : (⟨runP Γ gl W d, sigP Γ, clOf [.sh], gl, W⟩ : CQ) = X
  have hx : X.cl = clOf [.sh] := by rw [← hX]
  have E : Ends X := by rw [← hX]; exact E _
  have e := E.call n ts (List.range ts.length) (.lst (natsP (List.range ts.length))) b hn ok (fun s hs => List.mem_range.mp hs) (.inr rfl)
  rw [← rng_nats] at e
  simp only [b_many_ends, webV] at e ⊢
  simp -dsimp only [w_int, w_bl, w_str, w_non, w_var, w_glb, w_tup, w_lst, w_bin, w_neg, w_not, w_cmp, w_chain, w_and, w_or, w_ife, w_ix, w_sl, w_slL, w_slH, w_slB, w_rev, w_call, w_blt, w_meth, w_isi, w_dsp, w_rngL, w_rngT, lcSrc, w_lc, w_es0, w_es1, w_ts0, w_ts1, w_asg, subO, w_asgSub, w_expr, w_ret, w_retN, w_ite, w_for, w_whl, w_pass, w_brk, w_cont, w_ss0, w_ss1, th_nx, th_ret, th_brk, th_cont, ob_some, br_t, br_f, qb_ok, qb_assoc, rd_s, rd_non, rd_bl, rd_int, rd_str, rd_tup, rd_lst, rd_fro, rd_dct, lookO, looks, on1, on2, intO, force, forces, forceQ, asgF, asgO, asgP, asgPs, Opd.v, ld_non, ld_bl, ld_int, ld_str, ld_tup, ld_lst, ld_fro, ld_dct, lk_non, lk_bl, lk_int, lk_str, lk_tup, lk_lst, lk_fro, lk_dct, lk_lck, clOf, finQ_ret, finQ_nx, exitQ, outsP, callP, argsP, backP,  List.getElem?_cons_zero, List.getElem?_cons_succ, List.set_cons_zero, List.set_cons_succ, Option.getD_some, Option.map_some, Option.bind_some, reduceCtorEq, ↓reduceIte, if_true, if_false, noRef, noRefs, emb, embs, tr_bl, tr_int, tr_non, tr_tup, tr_lst, bp_add, bp_sub, cp_eqI, cp_neI, cp_eqS, cp_neS, cp_lt, cp_le, cp_gt, cp_ge, cp_in, cp_notin, cp_isN, cp_isnN, isNon, mx_int, mn_int, ln_tup, ln_lst, ln_fro, tu_lst, tu_tup, li_tup, li_lst, in_bl, in_int, ix_tup', ix_lst', at_0, at_1, at_2, at_3, canP, Bool.not_true, Bool.not_false, Bool.false_eq_true, Bool.true_and, Bool.and_true, Bool.and_self, decide_true, decide_false, methO, Me.reads, kd_str', kd_tup', kd_lst', kd_dct', or_true, true_or, or_false, false_or, and_true, true_and, and_self, ne_eq, not_false_eq_true, not_true_eq_false, eq_self,  srcP, lockO, unlockO, restP, Option.join_some, lc_some, lc_t, lc_f, fs_some, wipeP, List.length_cons, List.length_nil, Nat.reduceAdd, List.map_cons, List.map_nil, List.cons_append, List.nil_append, List.replicate, Nat.reduceSub, beq_self_eq_true, lcOk, MT.slots, MT.slotss, List.all_cons, List.all_nil, List.contains_cons, List.contains_nil, Bool.true_or, Bool.or_true, Bool.or_false, Bool.false_or, Nat.reduceBEq, rng_len, List.length_map, it_tup, it_lst, is_tup, is_int, is_bl, is_lst, is_str, is_non, rv_tup, hx, E.sig, e, rngP_ok (show ts.length ≤ 1000000 by omega)]
end GA
end Mn

set_option autoImplicit false
set_option maxHeartbeats 1000000
/-! GAI: dicts of numbers, rising numbers, sizes. -/
namespace Mn
namespace GA
open PySem L2
def dictN (K : List Nat) (f : Nat → Bool) : List (Key × PV) := K.map fun p : Nat => ((.inl (p : Int) : Key), PV.bl (f p))
theorem get_dict {K : List Nat} {f : Nat → Bool} {p : Nat} : getKP (.inl (p : Int)) (dictN K f) = if p ∈ K then some (.bl (f p)) else none := by
  unfold getKP dictN
  induction K with
  | nil => rfl
  | cons k K ih =>
    simp only [List.map_cons, List.find?_cons]
    by_cases c : p = k
    · subst c; simp
    · have : decide ((Sum.inl (k : Int) : Key) = .inl (p : Int)) = false := decide_eq_false (by simp; omega)
      rw [this]
      simp only [List.mem_cons, c, false_or]
      exact ih
theorem put_dict {K : List Nat} {f : Nat → Bool} {p : Nat} {v : Bool} : putKP (.inl (p : Int)) (.bl v) (dictN K f) = dictN (if p ∈ K then K else K ++ [p]) (fun q => if q = p then v else f q) := by
  unfold putKP
  have ha : ((dictN K f).any fun kv => decide (kv.1 = (Sum.inl (p : Int) : Key))) = decide (p ∈ K) := by
    unfold dictN
    rw [List.any_map]
    induction K with
    | nil => rfl
    | cons k K ih =>
      rw [List.any_cons, ih]
      by_cases c : p = k
      · subst c; simp
      · have : decide ((Sum.inl (k : Int) : Key) = .inl (p : Int)) = false := decide_eq_false (by simp; omega)
        simp [c, this]
        intro z
        exact absurd (by omega) c
  rw [ha]
  by_cases c : p ∈ K
  · rw [if_pos (by simpa using c), if_pos c]
    unfold dictN
    rw [List.map_map]
    refine List.map_congr_left fun k hk => ?_
    by_cases ck : k = p
    · subst ck; simp
    · have : ¬ (Sum.inl (k : Int) : Key) = .inl (p : Int) := by simp; omega
      simp [ck, this]
  · rw [if_neg (by simpa using c), if_neg c]
    unfold dictN
    rw [List.map_append]
    congr 1
    · refine List.map_congr_left fun k hk => ?_
      have : k ≠ p := fun e => c (e ▸ hk)
      simp [this]
    · simp
theorem keys_dict {K : List Nat} {f : Nat → Bool} : intKeys (dictN K f) = some (K.map fun p : Nat => (p : Int)) := by
  unfold dictN
  induction K with
  | nil => rfl
  | cons k K ih => simp only [List.map_cons, intKeys, ih, Option.map_some]
theorem rise_ext : ∀ {a b : List Nat}, a.Pairwise (· < ·) → b.Pairwise (· < ·) → (∀ x, x ∈ a ↔ x ∈ b) → a = b
  | [], [], _, _, _ => rfl
  | [], y :: b, _, _, h => absurd ((h y).mpr (List.mem_cons_self ..)) (by simp)
  | x :: a, [], _, _, h => absurd ((h x).mp (List.mem_cons_self ..)) (by simp)
  | x :: a, y :: b, ha, hb, h => by
    obtain ⟨a1, a2⟩ := List.pairwise_cons.mp ha
    obtain ⟨b1, b2⟩ := List.pairwise_cons.mp hb
    have h1 := (h x).mp (List.mem_cons_self ..)
    have h2 := (h y).mpr (List.mem_cons_self ..)
    have e : x = y := by
      rcases List.mem_cons.mp h1 with z | z
      · exact z
      · rcases List.mem_cons.mp h2 with w | w
        · exact w.symm
        · have := b1 x z; have := a1 y w; omega
    subst e
    rw [rise_ext a2 b2 fun z => ?_]
    constructor
    · intro hz
      rcases List.mem_cons.mp ((h z).mp (List.mem_cons_of_mem _ hz)) with w | w
      · have := a1 z hz; omega
      · exact w
    · intro hz
      rcases List.mem_cons.mp ((h z).mpr (List.mem_cons_of_mem _ hz)) with w | w
      · have := b1 z hz; omega
      · exact w
/-- rising numbers out of any order -/
theorem sort_nats {K : List Nat} (hn : K.Nodup) : ∃ R : List Nat, ((K.map fun p : Nat => (p : Int)).mergeSort fun x y => decide (x ≤ y)).map PV.int = natsP R ∧ R.Pairwise (· < ·) ∧ R.Perm K := by
  have hp := List.mergeSort_perm (K.map fun p : Nat => (p : Int)) fun x y => decide (x ≤ y)
  obtain ⟨R, e, hR⟩ := perm_map_inv hp K rfl
  have hs := List.pairwise_mergeSort (le := fun x y : Int => decide (x ≤ y)) (fun a b c h1 h2 => by simp at h1 h2 ⊢; omega) (fun a b => by simp; omega) (K.map fun p : Nat => (p : Int))
  rw [e] at hs ⊢
  refine ⟨R, by simp [natsP], ?_, hR⟩
  have h1 : R.Pairwise fun a b => a ≤ b := by
    rw [List.pairwise_map] at hs
    exact hs.imp fun h => by simpa using h
  have h2 : R.Pairwise fun a b => a ≠ b := hR.nodup_iff.mpr hn
  exact (h1.and h2).imp fun h => by omega
theorem len_le {m : Nat} : ∀ {S : List Nat} {lo : Nat}, S.Pairwise (· < ·) → (∀ s ∈ S, lo ≤ s ∧ s < m) → S.length ≤ m - lo
  | [], _, _, _ => Nat.zero_le _
  | a :: S, lo, p, h => by
    obtain ⟨p1, p2⟩ := List.pairwise_cons.mp p
    have h1 := h a (List.mem_cons_self ..)
    have := len_le (lo := a + 1) p2 fun s hs => ⟨p1 s hs, (h s (List.mem_cons_of_mem _ hs)).2⟩
    simp only [List.length_cons]
    omega
theorem zPs_le {ys : List PV} {k : Nat} (h : ∀ v ∈ ys, zP v ≤ k) : zPs ys ≤ (k + 2) * ys.length := by
  induction ys with
  | nil => simp [zPs]
  | cons y ys ih =>
    have h1 := h y (List.mem_cons_self ..)
    have h2 := ih fun v hv => h v (List.mem_cons_of_mem _ hv)
    simp only [zPs, List.length_cons, Nat.mul_add, Nat.mul_one]
    omega
theorem g_nats {S : List Nat} (h : ∀ s ∈ S, s ≤ 1000000) (l : S.length ≤ 1000) : (∀ k, gPs (natsP S) k = true) ∧ hPs (natsP S) = 0 ∧ zPs (natsP S) ≤ 48000 := by
  have m : ∀ v ∈ natsP S, ∃ s : Nat, v = .int (s : Int) ∧ s ≤ 1000000 := fun v hv => by
    obtain ⟨s, hs, rfl⟩ := List.mem_map.mp hv
    exact ⟨s, rfl, h s hs⟩
  refine ⟨fun k => gPs_of fun v hv => ?_, ?_, ?_⟩
  · obtain ⟨s, rfl, hs⟩ := m v hv
    simp only [gP, decide_eq_true_eq]; omega
  · have : hPs (natsP S) ≤ 0 := hPs_of fun v hv => by obtain ⟨s, rfl, hs⟩ := m v hv; simp [hP]
    omega
  · have := zPs_le (ys := natsP S) (k := 46) fun v hv => by obtain ⟨s, rfl, hs⟩ := m v hv; simp [zP]
    rw [show (natsP S).length = S.length by simp [natsP]] at this
    omega
theorem web_g {n : Nat} {ts : List AT} (hn : n ≤ 100) (hl : ts.length ≤ 200) (ok : ∀ t ∈ ts, okA true n t) : gP (webV n ts) 0 = true ∧ hP (webV n ts) ≤ 3 ∧ zP (webV n ts) ≤ 100000 := by
  have g : gPs (ts.map tieV) 0 = true := gPs_of fun v hv => by
    obtain ⟨t, ht, rfl⟩ := List.mem_map.mp hv
    obtain ⟨h1, h2, h3, h4, _⟩ := ok t ht
    simp only [tieV, gP, gPs, Bool.and_true, Bool.and_eq_true, decide_eq_true_eq]
    omega
  have e : hPs (ts.map tieV) ≤ 1 := hPs_of fun v hv => by
    obtain ⟨t, ht, rfl⟩ := List.mem_map.mp hv
    simp [tieV, hP, hPs]
  have z := zPs_le (ys := ts.map tieV) (k := 148) fun v hv => by
    obtain ⟨t, ht, rfl⟩ := List.mem_map.mp hv
    simp [tieV, zP, zPs]
  rw [List.length_map] at z
  refine ⟨?_, ?_, ?_⟩
  · simp only [webV, gP, gPs, g, Bool.and_true, decide_eq_true_eq]; omega
  · simp only [webV, hP, hPs]; omega
  · simp only [webV, zP, zPs]; omega
end GA
end Mn

set_option autoImplicit false
set_option maxHeartbeats 1000000
/-! PAR: the parts of a web (k04, k05). -/
namespace Mn
namespace GA
open PySem L2
/-- 0 web, 1 number, 2 place -/
def b_beyond : List MS := [
  .ret (.bin .Sub (.bin .Add (.ix (.ix (.ix (.var 0) (.c (.int 1))) (.var 1)) (.c (.int 0))) (.ix (.ix (.ix (.var 0) (.c (.int 1))) (.var 1)) (.c (.int 1)))) (.var 2))]
def p_beyond : FP := ⟨3, 3, b_beyond, [.sh, .sh, .sh], [.pl, .pl, .pl], false⟩
/-- 0 web, 1 place, 2 known, 3 line, 4 at, 5 number, 6 tie -/
def b_part_from : List MS := [
  .asg (.nm 2) (.dsp [.var 1, .c (.bl true)]),
  .asg (.nm 3) (.lst [.var 1]),
  .asg (.nm 4) (.c (.int 0)),
  .whl (.cmp .Lt (.var 4) (.blt .len [.var 3])) [
    .for_ (.tp [.nm 5, .nm 6]) .enum (.ix (.var 0) (.c (.int 1))) (.c .non) [
      .ite (.and_ (.cmp .In (.ix (.var 3) (.var 4)) (.slH (.var 6) (.c (.int 2)))) (.cmp .NotIn (.call "beyond" [.var 0, .var 5, .ix (.var 3) (.var 4)]) (.var 2))) [
        .asgSub (.var 2) (.call "beyond" [.var 0, .var 5, .ix (.var 3) (.var 4)]) (.c (.bl true)),
        .expr (.meth .append (.var 3) [.call "beyond" [.var 0, .var 5, .ix (.var 3) (.var 4)]])] []],
    .asg (.nm 4) (.bin .Add (.var 4) (.c (.int 1)))],
  .ret (.blt .tuple [.blt .sorted [.var 3]])]
def p_part_from : FP := ⟨2, 7, b_part_from, [.sh, .sh, .ow, .ow, .sh, .sh, .sh], [.pl, .pl], false⟩
/-- 0 web, 1 found, 2 known, 3 place, 4 one -/
def b_parts_of : List MS := [
  .asg (.nm 1) (.lst []),
  .asg (.nm 2) (.dsp []),
  .for_ (.nm 3) .rng1 (.ix (.var 0) (.c (.int 0))) (.c .non) [
    .ite (.cmp .NotIn (.var 3) (.var 2)) [
      .expr (.meth .append (.var 1) [.call "part_from" [.var 0, .var 3]]),
      .for_ (.nm 4) .val (.ix (.var 1) (.neg (.c (.int 1)))) (.c .non) [
        .asgSub (.var 2) (.var 4) (.c (.bl true))]] []],
  .ret (.blt .tuple [.var 1])]
def p_parts_of : FP := ⟨1, 5, b_parts_of, [.sh, .ow, .ow, .sh, .sh], [.pl], false⟩
/-- 0 _law_web_here, 1 _law_names, 2 _law_a, 3 _law_b, 4 _law_price_here, 5 _law_one, 6 _law_other, 7 _law_name, 8 _law_found, 9 _law_place, 10 _law_k -/
def b_x_parts : List MS := [
  .asg (.nm 1) (.rngL (.c (.int 0)) (.ix (.var 0) (.c (.int 0)))),
  .for_ (.tp [.nm 2, .nm 3, .nm 4]) .val (.ix (.var 0) (.c (.int 1))) (.c .non) [
    .asg (.tp [.nm 5, .nm 6]) (.tup [.blt .min [.ix (.var 1) (.var 2), .ix (.var 1) (.var 3)], .blt .max [.ix (.var 1) (.var 2), .ix (.var 1) (.var 3)]]),
    .asg (.nm 1) (.lc (.ife (.cmp .Eq (.var 7) (.var 6)) (.var 5) (.var 7)) (.nm 7) .val (.var 1) (.c .non) [] [7])],
  .asg (.nm 8) (.lst []),
  .for_ (.nm 9) .rng1 (.ix (.var 0) (.c (.int 0))) (.c .non) [
    .ite (.cmp .Eq (.ix (.var 1) (.var 9)) (.var 9)) [
      .expr (.meth .append (.var 8) [.blt .tuple [.lc (.var 10) (.nm 10) .rng1 (.ix (.var 0) (.c (.int 0))) (.c .non) [.cmp .Eq (.ix (.var 1) (.var 10)) (.var 9)] [10]]])] []],
  .ret (.blt .tuple [.var 8])]
def p_x_parts : FP := ⟨1, 11, b_x_parts, [.sh, .sh, .sh, .sh, .sh, .sh, .sh, .sh, .ow, .sh, .sh], [.pl], false⟩
/-- hanging together -/
inductive Cn (ts : List AT) (p : Nat) : Nat → Prop
  | refl : Cn ts p p
  | step {q r : Nat} (t : AT) : Cn ts p q → t ∈ ts → (t.1 = q ∧ t.2.1 = r) ∨ (t.2.1 = q ∧ t.1 = r) → Cn ts p r
section
variable {ts : List AT} {p q r : Nat}
theorem Cn.trans (h : Cn ts p q) (h2 : Cn ts q r) : Cn ts p r := by
  induction h2 with
  | refl => exact h
  | step t _ ht e ih => exact .step t ih ht e
theorem Cn.one {t : AT} (ht : t ∈ ts) : Cn ts t.1 t.2.1 := .step t .refl ht (.inl ⟨rfl, rfl⟩)
theorem Cn.eno {t : AT} (ht : t ∈ ts) : Cn ts t.2.1 t.1 := .step t .refl ht (.inr ⟨rfl, rfl⟩)
theorem Cn.symm (h : Cn ts p q) : Cn ts q p := by
  induction h with
  | refl => exact .refl
  | step t _ ht e ih =>
    rcases e with ⟨rfl, rfl⟩ | ⟨rfl, rfl⟩
    · exact (Cn.eno ht).trans ih
    · exact (Cn.one ht).trans ih
theorem Cn.lt {b : Bool} {n : Nat} (ok : ∀ t ∈ ts, okA b n t) (hp : p < n) (h : Cn ts p q) : q < n := by
  induction h with
  | refl => exact hp
  | step t _ ht e ih =>
    obtain ⟨o1, o2, _⟩ := ok t ht
    rcases e with ⟨_, rfl⟩ | ⟨_, rfl⟩ <;> omega
end
def cnB (ts : List AT) (p q : Nat) : Bool := @decide (Cn ts p q) (Classical.propDecidable _)
def leastB (ts : List AT) (p : Nat) : Bool := @decide (∀ q, q < p → ¬ Cn ts q p) (Classical.propDecidable _)
theorem cnB_iff {ts : List AT} {p q : Nat} : cnB ts p q = true ↔ Cn ts p q := by unfold cnB; exact @decide_eq_true_iff _ (Classical.propDecidable _)
theorem leastB_iff {ts : List AT} {p : Nat} : leastB ts p = true ↔ ∀ q, q < p → ¬ Cn ts q p := by unfold leastB; exact @decide_eq_true_iff _ (Classical.propDecidable _)
/-- the part of a place -/
def partS (n : Nat) (ts : List AT) (p : Nat) : List Nat := (List.range n).filter (cnB ts p)
/-- the parts -/
def partsP (n : Nat) (ts : List AT) : List PV := ((List.range n).filter (leastB ts)).map fun p => .tup (natsP (partS n ts p))
def dT (K : List Nat) : List (Key × PV) := dictN K fun _ => true
theorem dT_in {K : List Nat} {p : Nat} : inP (.int (p : Int)) (.dct (dT K)) = some (decide (p ∈ K)) := by
  simp only [inP, keyOfP, Option.map_some, dT, get_dict]
  by_cases c : p ∈ K <;> simp [c]
theorem dT_put {K : List Nat} {p : Nat} (h : p ∉ K) (l : K.length < 1000000) : setV (.dct (dT K)) (.int (p : Int)) (.bl true) = some (.dct (dT (K ++ [p]))) := by
  have ll : (dT K).length < lineM := by simp [dT, dictN, lineM]; exact l
  simp only [setV, keyOfP, Option.bind_some]
  rw [if_pos ll, dT, put_dict, if_neg h]
  congr 2
  simp [dT, dictN]
theorem dT_put' {K : List Nat} {p : Nat} (h : p ∈ K) (l : K.length < 1000000) : setV (.dct (dT K)) (.int (p : Int)) (.bl true) = some (.dct (dT K)) := by
  have ll : (dT K).length < lineM := by simp [dT, dictN, lineM]; exact l
  simp only [setV, keyOfP, Option.bind_some]
  rw [if_pos ll, dT, put_dict, if_pos h]
  congr 2
  simp [dT, dictN]
theorem nodup_len {K : List Nat} {n : Nat} (hn : K.Nodup) (h : ∀ k ∈ K, k < n) : K.length ≤ n := by
  obtain ⟨R, _, hR, hp⟩ := sort_nats hn
  have := len_le (lo := 0) (m := n) hR fun s hs => ⟨Nat.zero_le _, h s (hp.mem_iff.mp hs)⟩
  rw [hp.length_eq] at this
  omega
theorem sorted_nats {K : List Nat} (hn : K.Nodup) : ∃ R : List Nat, bltP .sorted [.lst (natsP K)] = some (.own (.lst (natsP R))) ∧ R.Pairwise (· < ·) ∧ R.Perm K := by
  obtain ⟨R, e, hR, hp⟩ := sort_nats hn
  refine ⟨R, ?_, hR, hp⟩
  have : allIntsP (natsP K) = some (K.map fun p : Nat => (p : Int)) := by
    clear e hp hn
    induction K with
    | nil => rfl
    | cons k K ih => simp only [natsP, List.map_cons, allIntsP] at ih ⊢; rw [ih]; rfl
  simp only [bltP, lstsP, Option.bind_some, this, Option.map_some, e]
/-! the program -/
structure Beyond (X : CQ) : Prop where
  sig : X.sig "beyond" = some ([.pl, .pl, .pl], false)
  call : ∀ n ts k (q : Int), k < ts.length → X.call "beyond" [webV n ts, .int (k : Nat), .int q] = .ok (.val (.int ((tat ts k).1 + (tat ts k).2.1 - q))) [webV n ts, .int (k : Nat), .int q]
theorem beyond_ok {Γ : Str → Option FP} {gl : Str → Option MV} {W d : Nat} {c : Nat → Cls} (g : Γ "beyond" = some p_beyond) : Beyond ⟨runP Γ gl W (d + 1), sigP Γ, c, gl, W⟩ := by
  refine ⟨sig_eq g, fun n ts k q hk => ?_⟩
  dsimp only
  rw [run_eq g rfl rfl]
  generalize hX : (⟨runP Γ gl W d, sigP Γ, clOf [.sh, .sh, .sh], gl, W⟩ : CQ) = X
  have hx : X.cl = clOf [.sh, .sh, .sh] := by rw [← hX]
  have ta := tie_at hk
  simp only [b_beyond, webV]
  simp -dsimp only [w_int, w_bl, w_str, w_non, w_var, w_glb, w_tup, w_lst, w_bin, w_neg, w_not, w_cmp, w_chain, w_and, w_or, w_ife, w_ix, w_sl, w_slL, w_slH, w_slB, w_rev, w_call, w_blt, w_meth, w_isi, w_dsp, w_rngL, w_rngT, lcSrc, w_lc, w_es0, w_es1, w_ts0, w_ts1, w_asg, subO, w_asgSub, w_expr, w_ret, w_retN, w_ite, w_for, w_whl, w_pass, w_brk, w_cont, w_ss0, w_ss1, th_nx, th_ret, th_brk, th_cont, ob_some, br_t, br_f, qb_ok, qb_assoc, rd_s, rd_non, rd_bl, rd_int, rd_str, rd_tup, rd_lst, rd_fro, rd_dct, lookO, looks, on1, on2, intO, force, forces, forceQ, asgF, asgO, asgP, asgPs, Opd.v, ld_non, ld_bl, ld_int, ld_str, ld_tup, ld_lst, ld_fro, ld_dct, lk_non, lk_bl, lk_int, lk_str, lk_tup, lk_lst, lk_fro, lk_dct, lk_lck, clOf, finQ_ret, finQ_nx, exitQ, outsP, callP, argsP, backP,  List.getElem?_cons_zero, List.getElem?_cons_succ, List.set_cons_zero, List.set_cons_succ, Option.getD_some, Option.map_some, Option.bind_some, reduceCtorEq, ↓reduceIte, if_true, if_false, noRef, noRefs, emb, embs, tr_bl, tr_int, tr_non, tr_tup, tr_lst, bp_add, bp_sub, cp_eqI, cp_neI, cp_eqS, cp_neS, cp_lt, cp_le, cp_gt, cp_ge, cp_in, cp_notin, cp_isN, cp_isnN, isNon, mx_int, mn_int, ln_tup, ln_lst, ln_fro, tu_lst, tu_tup, li_tup, li_lst, in_bl, in_int, ix_tup', ix_lst', at_0, at_1, at_2, at_3, canP, Bool.not_true, Bool.not_false, Bool.false_eq_true, Bool.true_and, Bool.and_true, Bool.and_self, decide_true, decide_false, methO, Me.reads, kd_str', kd_tup', kd_lst', kd_dct', or_true, true_or, or_false, false_or, and_true, true_and, and_self, ne_eq, not_false_eq_true, not_true_eq_false, eq_self,  srcP, lockO, unlockO, restP, Option.join_some, lc_some, lc_t, lc_f, fs_some, wipeP, List.length_cons, List.length_nil, Nat.reduceAdd, List.map_cons, List.map_nil, List.cons_append, List.nil_append, List.replicate, Nat.reduceSub, beq_self_eq_true, lcOk, MT.slots, MT.slotss, List.all_cons, List.all_nil, List.contains_cons, List.contains_nil, Bool.true_or, Bool.or_true, Bool.or_false, Bool.false_or, Nat.reduceBEq, rng_len, List.length_map, it_tup, it_lst, is_tup, is_int, is_bl, is_lst, is_str, is_non, rv_tup, hx, ta]
structure PartF (X : CQ) : Prop where
  sig : X.sig "part_from" = some ([.pl, .pl], false)
  call : ∀ n ts p b, n ≤ 1000 → p < n → (∀ t ∈ ts, okA b n t) → X.call "part_from" [webV n ts, .int (p : Nat)] = .ok (.val (.tup (natsP (partS n ts p)))) [webV n ts, .int (p : Nat)]
def pcl : List Cls := [.sh, .sh, .ow, .ow, .sh, .sh, .sh]
/-- the other end is known, of each of the first ties -/
def clo (t : AT) (L : List Nat) (x : Nat) : Prop := (t.1 = x → t.2.1 ∈ L) ∧ (t.2.1 = x → t.1 ∈ L)
theorem part_turn {X : CQ} (hx : X.cl = clOf pcl) (B : Beyond X) {n p i a x : Nat} {ts : List AT} {b : Bool} {L M : List Nat} {x5 x6 : Option PV} (hn : n ≤ 1000) (hpn : p < n) (ok : ∀ t ∈ ts, okA b n t) (hi : i < ts.length)
    (hM : M.Nodup) (hc : ∀ q ∈ M, Cn ts p q) (ha : M[a]? = some x) :
    Evq (evTs' X [.ite (.and_ (.cmp .In (.ix (.var 3) (.var 4)) (.slH (.var 6) (.c (.int 2)))) (.cmp .NotIn (.call "beyond" [.var 0, .var 5, .ix (.var 3) (.var 4)]) (.var 2))) [
        .asgSub (.var 2) (.call "beyond" [.var 0, .var 5, .ix (.var 3) (.var 4)]) (.c (.bl true)),
        .expr (.meth .append (.var 3) [.call "beyond" [.var 0, .var 5, .ix (.var 3) (.var 4)]])] []]
      [some (webV n ts), some (.int p), some (.dct (dT M)), some (.lst (natsP M)), some (.int (a : Nat)), some (.int (i : Nat)), some (.tup [.int (tat ts i).1, .int (tat ts i).2.1, .int (tat ts i).2.2])]) fun fl σ => fl = .nx ∧ ∃ M' x5 x6, σ = [some (webV n ts), some (.int p), some (.dct (dT M')), some (.lst (natsP M')), some (.int (a : Nat)), x5, x6] ∧ M <+: M' ∧ M'.Nodup ∧ (∀ q ∈ M', Cn ts p q) ∧ clo (tat ts i) M' x := by
  have ht := tat_mem hi
  obtain ⟨o1, o2, _⟩ := ok _ ht
  have ml : M.length ≤ n := nodup_len hM fun k hk => (hc k hk).lt ok hpn
  have e3 : atI (natsP M) (a : Int) = some (.int (x : Int)) := by rw [at_nat, natsP, List.getElem?_map, ha]; rfl
  have hxm : Cn ts p x := hc x (List.mem_of_getElem? ha)
  have sl : slP (.tup [.int ((tat ts i).1 : Int), .int ((tat ts i).2.1 : Int), .int (tat ts i).2.2]) none (some 2) = some (.val (.tup (natsP [(tat ts i).1, (tat ts i).2.1]))) := sp_h (k := 2)
  have ip := in_nats (a := x) (S := [(tat ts i).1, (tat ts i).2.1])
  simp only [cp_in] at ip
  have lw : isLk (webV n ts) = false := rfl
  have al : (natsP M).length < 1000000 := by simp [natsP]; omega
  by_cases c : x ∈ [(tat ts i).1, (tat ts i).2.1]
  · obtain ⟨y, hy, hxy, hcl⟩ : ∃ y : Nat, ((tat ts i).1 : Int) + ((tat ts i).2.1 : Int) - (x : Int) = (y : Int) ∧ Cn ts x y ∧ ∀ M', y ∈ M' → clo (tat ts i) M' x := by
      simp only [List.mem_cons, List.mem_nil_iff, or_false] at c
      rcases c with rfl | rfl
      · exact ⟨(tat ts i).2.1, by omega, Cn.one ht, fun M' h => ⟨fun _ => h, fun z => by omega⟩⟩
      · exact ⟨(tat ts i).1, by omega, Cn.eno ht, fun M' h => ⟨fun z => by omega, fun _ => h⟩⟩
    have eb := B.call n ts i (x : Int) hi
    rw [hy] at eb
    have ik := dT_in (K := M) (p := y)
    by_cases cy : y ∈ M
    · simp -dsimp only [w_int, w_bl, w_str, w_non, w_var, w_glb, w_tup, w_lst, w_bin, w_neg, w_not, w_cmp, w_chain, w_and, w_or, w_ife, w_ix, w_sl, w_slL, w_slH, w_slB, w_rev, w_call, w_blt, w_meth, w_isi, w_dsp, w_rngL, w_rngT, lcSrc, w_lc, w_es0, w_es1, w_ts0, w_ts1, w_asg, subO, w_asgSub, w_expr, w_ret, w_retN, w_ite, w_for, w_whl, w_pass, w_brk, w_cont, w_ss0, w_ss1, th_nx, th_ret, th_brk, th_cont, ob_some, br_t, br_f, qb_ok, qb_assoc, rd_s, rd_non, rd_bl, rd_int, rd_str, rd_tup, rd_lst, rd_fro, rd_dct, lookO, looks, on1, on2, intO, force, forces, forceQ, asgF, asgO, asgP, asgPs, Opd.v, ld_non, ld_bl, ld_int, ld_str, ld_tup, ld_lst, ld_fro, ld_dct, lk_non, lk_bl, lk_int, lk_str, lk_tup, lk_lst, lk_fro, lk_dct, lk_lck, clOf, finQ_ret, finQ_nx, exitQ, outsP, callP, argsP, backP,  List.getElem?_cons_zero, List.getElem?_cons_succ, List.set_cons_zero, List.set_cons_succ, Option.getD_some, Option.map_some, Option.bind_some, reduceCtorEq, ↓reduceIte, if_true, if_false, noRef, noRefs, emb, embs, tr_bl, tr_int, tr_non, tr_tup, tr_lst, bp_add, bp_sub, cp_eqI, cp_neI, cp_eqS, cp_neS, cp_lt, cp_le, cp_gt, cp_ge, cp_in, cp_notin, cp_isN, cp_isnN, isNon, mx_int, mn_int, ln_tup, ln_lst, ln_fro, tu_lst, tu_tup, li_tup, li_lst, in_bl, in_int, ix_tup', ix_lst', at_0, at_1, at_2, at_3, canP, Bool.not_true, Bool.not_false, Bool.false_eq_true, Bool.true_and, Bool.and_true, Bool.and_self, decide_true, decide_false, methO, Me.reads, kd_str', kd_tup', kd_lst', kd_dct', or_true, true_or, or_false, false_or, and_true, true_and, and_self, ne_eq, not_false_eq_true, not_true_eq_false, eq_self,  srcP, lockO, unlockO, restP, Option.join_some, lc_some, lc_t, lc_f, fs_some, wipeP, List.length_cons, List.length_nil, Nat.reduceAdd, List.map_cons, List.map_nil, List.cons_append, List.nil_append, List.replicate, Nat.reduceSub, beq_self_eq_true, lcOk, MT.slots, MT.slotss, List.all_cons, List.all_nil, List.contains_cons, List.contains_nil, Bool.true_or, Bool.or_true, Bool.or_false, Bool.false_or, Nat.reduceBEq, rng_len, List.length_map, it_tup, it_lst, is_tup, is_int, is_bl, is_lst, is_str, is_non, rv_tup, hx, pcl, e3, sl, ip, c, rd_any lw, B.sig, eb, ik, cy]
      exact .ok ⟨rfl, M, _, _, rfl, List.prefix_refl _, hM, hc, hcl M cy⟩
    · have e4 := dT_put cy (by omega)
      simp -dsimp only [w_int, w_bl, w_str, w_non, w_var, w_glb, w_tup, w_lst, w_bin, w_neg, w_not, w_cmp, w_chain, w_and, w_or, w_ife, w_ix, w_sl, w_slL, w_slH, w_slB, w_rev, w_call, w_blt, w_meth, w_isi, w_dsp, w_rngL, w_rngT, lcSrc, w_lc, w_es0, w_es1, w_ts0, w_ts1, w_asg, subO, w_asgSub, w_expr, w_ret, w_retN, w_ite, w_for, w_whl, w_pass, w_brk, w_cont, w_ss0, w_ss1, th_nx, th_ret, th_brk, th_cont, ob_some, br_t, br_f, qb_ok, qb_assoc, rd_s, rd_non, rd_bl, rd_int, rd_str, rd_tup, rd_lst, rd_fro, rd_dct, lookO, looks, on1, on2, intO, force, forces, forceQ, asgF, asgO, asgP, asgPs, Opd.v, ld_non, ld_bl, ld_int, ld_str, ld_tup, ld_lst, ld_fro, ld_dct, lk_non, lk_bl, lk_int, lk_str, lk_tup, lk_lst, lk_fro, lk_dct, lk_lck, clOf, finQ_ret, finQ_nx, exitQ, outsP, callP, argsP, backP,  List.getElem?_cons_zero, List.getElem?_cons_succ, List.set_cons_zero, List.set_cons_succ, Option.getD_some, Option.map_some, Option.bind_some, reduceCtorEq, ↓reduceIte, if_true, if_false, noRef, noRefs, emb, embs, tr_bl, tr_int, tr_non, tr_tup, tr_lst, bp_add, bp_sub, cp_eqI, cp_neI, cp_eqS, cp_neS, cp_lt, cp_le, cp_gt, cp_ge, cp_in, cp_notin, cp_isN, cp_isnN, isNon, mx_int, mn_int, ln_tup, ln_lst, ln_fro, tu_lst, tu_tup, li_tup, li_lst, in_bl, in_int, ix_tup', ix_lst', at_0, at_1, at_2, at_3, canP, Bool.not_true, Bool.not_false, Bool.false_eq_true, Bool.true_and, Bool.and_true, Bool.and_self, decide_true, decide_false, methO, Me.reads, kd_str', kd_tup', kd_lst', kd_dct', or_true, true_or, or_false, false_or, and_true, true_and, and_self, ne_eq, not_false_eq_true, not_true_eq_false, eq_self,  srcP, lockO, unlockO, restP, Option.join_some, lc_some, lc_t, lc_f, fs_some, wipeP, List.length_cons, List.length_nil, Nat.reduceAdd, List.map_cons, List.map_nil, List.cons_append, List.nil_append, List.replicate, Nat.reduceSub, beq_self_eq_true, lcOk, MT.slots, MT.slotss, List.all_cons, List.all_nil, List.contains_cons, List.contains_nil, Bool.true_or, Bool.or_true, Bool.or_false, Bool.false_or, Nat.reduceBEq, rng_len, List.length_map, it_tup, it_lst, is_tup, is_int, is_bl, is_lst, is_str, is_non, rv_tup, hx, pcl, e3, sl, ip, c, rd_any lw, B.sig, eb, ik, cy, e4, app_at al]
      refine .ok ⟨rfl, M ++ [y], _, _, by simp [natsP]; exact ⟨rfl, rfl⟩, List.prefix_append _ _, ?_, fun q hq => ?_, hcl _ (by simp)⟩
      · rw [List.nodup_append]
        exact ⟨hM, by simp, fun u hu w hw => by simp at hw; subst hw; exact fun e => cy (e ▸ hu)⟩
      · rcases List.mem_append.mp hq with z | z
        · exact hc q z
        · simp at z; subst z; exact hxm.trans hxy
  · simp -dsimp only [w_int, w_bl, w_str, w_non, w_var, w_glb, w_tup, w_lst, w_bin, w_neg, w_not, w_cmp, w_chain, w_and, w_or, w_ife, w_ix, w_sl, w_slL, w_slH, w_slB, w_rev, w_call, w_blt, w_meth, w_isi, w_dsp, w_rngL, w_rngT, lcSrc, w_lc, w_es0, w_es1, w_ts0, w_ts1, w_asg, subO, w_asgSub, w_expr, w_ret, w_retN, w_ite, w_for, w_whl, w_pass, w_brk, w_cont, w_ss0, w_ss1, th_nx, th_ret, th_brk, th_cont, ob_some, br_t, br_f, qb_ok, qb_assoc, rd_s, rd_non, rd_bl, rd_int, rd_str, rd_tup, rd_lst, rd_fro, rd_dct, lookO, looks, on1, on2, intO, force, forces, forceQ, asgF, asgO, asgP, asgPs, Opd.v, ld_non, ld_bl, ld_int, ld_str, ld_tup, ld_lst, ld_fro, ld_dct, lk_non, lk_bl, lk_int, lk_str, lk_tup, lk_lst, lk_fro, lk_dct, lk_lck, clOf, finQ_ret, finQ_nx, exitQ, outsP, callP, argsP, backP,  List.getElem?_cons_zero, List.getElem?_cons_succ, List.set_cons_zero, List.set_cons_succ, Option.getD_some, Option.map_some, Option.bind_some, reduceCtorEq, ↓reduceIte, if_true, if_false, noRef, noRefs, emb, embs, tr_bl, tr_int, tr_non, tr_tup, tr_lst, bp_add, bp_sub, cp_eqI, cp_neI, cp_eqS, cp_neS, cp_lt, cp_le, cp_gt, cp_ge, cp_in, cp_notin, cp_isN, cp_isnN, isNon, mx_int, mn_int, ln_tup, ln_lst, ln_fro, tu_lst, tu_tup, li_tup, li_lst, in_bl, in_int, ix_tup', ix_lst', at_0, at_1, at_2, at_3, canP, Bool.not_true, Bool.not_false, Bool.false_eq_true, Bool.true_and, Bool.and_true, Bool.and_self, decide_true, decide_false, methO, Me.reads, kd_str', kd_tup', kd_lst', kd_dct', or_true, true_or, or_false, false_or, and_true, true_and, and_self, ne_eq, not_false_eq_true, not_true_eq_false, eq_self,  srcP, lockO, unlockO, restP, Option.join_some, lc_some, lc_t, lc_f, fs_some, wipeP, List.length_cons, List.length_nil, Nat.reduceAdd, List.map_cons, List.map_nil, List.cons_append, List.nil_append, List.replicate, Nat.reduceSub, beq_self_eq_true, lcOk, MT.slots, MT.slotss, List.all_cons, List.all_nil, List.contains_cons, List.contains_nil, Bool.true_or, Bool.or_true, Bool.or_false, Bool.false_or, Nat.reduceBEq, rng_len, List.length_map, it_tup, it_lst, is_tup, is_int, is_bl, is_lst, is_str, is_non, rv_tup, hx, pcl, e3, sl, ip, c]
    simp only [List.mem_cons, List.mem_nil_iff, or_false, not_or] at c
    exact .ok ⟨rfl, M, _, _, rfl, List.prefix_refl _, hM, hc, ⟨fun z => absurd z.symm c.1, fun z => absurd z.symm c.2⟩⟩
theorem clo_mono {t : AT} {L M : List Nat} {x : Nat} (h : clo t L x) (s : L <+: M) : clo t M x := ⟨fun z => s.subset (h.1 z), fun z => s.subset (h.2 z)⟩
theorem pre_at {L M : List Nat} {a x : Nat} (h : L <+: M) (e : L[a]? = some x) : M[a]? = some x := by
  obtain ⟨K, rfl⟩ := h
  rw [List.getElem?_append_left (List.getElem?_eq_some_iff.mp e).1]; exact e
theorem part_ok {Γ : Str → Option FP} {gl : Str → Option MV} {W d : Nat} {c : Nat → Cls} (hW : 2000 < W) (g : Γ "part_from" = some p_part_from) (B : ∀ c, Beyond ⟨runP Γ gl W d, sigP Γ, c, gl, W⟩) : PartF ⟨runP Γ gl W (d + 1), sigP Γ, c, gl, W⟩ := by
  refine ⟨sig_eq g, fun n ts p b hn hpn ok => ?_⟩
  dsimp only
  rw [run_eq g rfl rfl]
  generalize hX : (⟨runP Γ gl W d, sigP Γ, clOf [.sh, .sh, .ow, .ow, .sh, .sh, .sh], gl, W⟩ : CQ) = X
  have hx : X.cl = clOf pcl := by rw [← hX]; rfl
  have hf : 2000 < X.fuel := by rw [← hX]; exact hW
  have B : Beyond X := by rw [← hX]; exact B _
  have lw : isLk (webV n ts) = false := rfl
  have fin : Evo (finQ [.pl, .pl] false [webV n ts, .int (p : Nat)] (evTs' X b_part_from [some (webV n ts), some (.int (p : Nat)), none, none, none, none, none])) fun o ios => o = .val (.tup (natsP (partS n ts p))) ∧ ios = [webV n ts, .int (p : Nat)] := by
    refine finQ_ev ?_
    simp only [b_part_from]
    have e0 : List.foldl (fun (acc : List (Key × PV)) kv => putKP kv.1 kv.2 acc) [] [((Sum.inl (p : Int) : Key), PV.bl true)] = dT [p] := by
      simp [putKP, dT, dictN]
    have e1 : pairUpP [.int (p : Int), .bl true] = some [((Sum.inl (p : Int) : Key), PV.bl true)] := rfl
    have en : natsP [p] = [.int (p : Int)] := rfl
    simp -dsimp only [w_int, w_bl, w_str, w_non, w_var, w_glb, w_tup, w_lst, w_bin, w_neg, w_not, w_cmp, w_chain, w_and, w_or, w_ife, w_ix, w_sl, w_slL, w_slH, w_slB, w_rev, w_call, w_blt, w_meth, w_isi, w_dsp, w_rngL, w_rngT, lcSrc, w_lc, w_es0, w_es1, w_ts0, w_ts1, w_asg, subO, w_asgSub, w_expr, w_ret, w_retN, w_ite, w_for, w_whl, w_pass, w_brk, w_cont, w_ss0, w_ss1, th_nx, th_ret, th_brk, th_cont, ob_some, br_t, br_f, qb_ok, qb_assoc, rd_s, rd_non, rd_bl, rd_int, rd_str, rd_tup, rd_lst, rd_fro, rd_dct, lookO, looks, on1, on2, intO, force, forces, forceQ, asgF, asgO, asgP, asgPs, Opd.v, ld_non, ld_bl, ld_int, ld_str, ld_tup, ld_lst, ld_fro, ld_dct, lk_non, lk_bl, lk_int, lk_str, lk_tup, lk_lst, lk_fro, lk_dct, lk_lck, clOf, finQ_ret, finQ_nx, exitQ, outsP, callP, argsP, backP,  List.getElem?_cons_zero, List.getElem?_cons_succ, List.set_cons_zero, List.set_cons_succ, Option.getD_some, Option.map_some, Option.bind_some, reduceCtorEq, ↓reduceIte, if_true, if_false, noRef, noRefs, emb, embs, tr_bl, tr_int, tr_non, tr_tup, tr_lst, bp_add, bp_sub, cp_eqI, cp_neI, cp_eqS, cp_neS, cp_lt, cp_le, cp_gt, cp_ge, cp_in, cp_notin, cp_isN, cp_isnN, isNon, mx_int, mn_int, ln_tup, ln_lst, ln_fro, tu_lst, tu_tup, li_tup, li_lst, in_bl, in_int, ix_tup', ix_lst', at_0, at_1, at_2, at_3, canP, Bool.not_true, Bool.not_false, Bool.false_eq_true, Bool.true_and, Bool.and_true, Bool.and_self, decide_true, decide_false, methO, Me.reads, kd_str', kd_tup', kd_lst', kd_dct', or_true, true_or, or_false, false_or, and_true, true_and, and_self, ne_eq, not_false_eq_true, not_true_eq_false, eq_self,  srcP, lockO, unlockO, restP, Option.join_some, lc_some, lc_t, lc_f, fs_some, wipeP, List.length_cons, List.length_nil, Nat.reduceAdd, List.map_cons, List.map_nil, List.cons_append, List.nil_append, List.replicate, Nat.reduceSub, beq_self_eq_true, lcOk, MT.slots, MT.slotss, List.all_cons, List.all_nil, List.contains_cons, List.contains_nil, Bool.true_or, Bool.or_true, Bool.or_false, Bool.false_or, Nat.reduceBEq, rng_len, List.length_map, it_tup, it_lst, is_tup, is_int, is_bl, is_lst, is_str, is_non, rv_tup, hx, pcl, e1, e0]
    rw [← en]
    refine .bnd ((whlD_inv (fun k σ => ∃ L a x5 x6, σ = [some (webV n ts), some (.int (p : Nat)), some (.dct (dT L)), some (.lst (natsP L)), some (.int (a : Nat)), x5, x6] ∧ L.Nodup ∧ p ∈ L ∧ (∀ q ∈ L, Cn ts p q) ∧ (∀ j x, j < a → L[j]? = some x → ∀ t ∈ ts, clo t L x) ∧ a ≤ L.length ∧ k + a = n)
      (fun σ => ∃ L x4 x5 x6, σ = [some (webV n ts), some (.int (p : Nat)), some (.dct (dT L)), some (.lst (natsP L)), x4, x5, x6] ∧ L.Nodup ∧ ∀ q, q ∈ L ↔ Cn ts p q)
      (k := n) ⟨[p], 0, none, none, rfl, by simp, by simp, fun q hq => by simp at hq; subst hq; exact .refl, fun j x hj => by omega, by simp, by omega⟩ ?_ X.fuel (by omega)).imp ?_)
    · rintro k σ ⟨L, a, x5, x6, rfl, hL, hp, hc, hcl, hal, hk⟩
      have ll : (natsP L).length = L.length := by simp [natsP]
      refine Evq.of (a := .val (.bl (decide ((a : Int) < (L.length : Int))))) (by simp -dsimp only [w_int, w_bl, w_str, w_non, w_var, w_glb, w_tup, w_lst, w_bin, w_neg, w_not, w_cmp, w_chain, w_and, w_or, w_ife, w_ix, w_sl, w_slL, w_slH, w_slB, w_rev, w_call, w_blt, w_meth, w_isi, w_dsp, w_rngL, w_rngT, lcSrc, w_lc, w_es0, w_es1, w_ts0, w_ts1, w_asg, subO, w_asgSub, w_expr, w_ret, w_retN, w_ite, w_for, w_whl, w_pass, w_brk, w_cont, w_ss0, w_ss1, th_nx, th_ret, th_brk, th_cont, ob_some, br_t, br_f, qb_ok, qb_assoc, rd_s, rd_non, rd_bl, rd_int, rd_str, rd_tup, rd_lst, rd_fro, rd_dct, lookO, looks, on1, on2, intO, force, forces, forceQ, asgF, asgO, asgP, asgPs, Opd.v, ld_non, ld_bl, ld_int, ld_str, ld_tup, ld_lst, ld_fro, ld_dct, lk_non, lk_bl, lk_int, lk_str, lk_tup, lk_lst, lk_fro, lk_dct, lk_lck, clOf, finQ_ret, finQ_nx, exitQ, outsP, callP, argsP, backP,  List.getElem?_cons_zero, List.getElem?_cons_succ, List.set_cons_zero, List.set_cons_succ, Option.getD_some, Option.map_some, Option.bind_some, reduceCtorEq, ↓reduceIte, if_true, if_false, noRef, noRefs, emb, embs, tr_bl, tr_int, tr_non, tr_tup, tr_lst, bp_add, bp_sub, cp_eqI, cp_neI, cp_eqS, cp_neS, cp_lt, cp_le, cp_gt, cp_ge, cp_in, cp_notin, cp_isN, cp_isnN, isNon, mx_int, mn_int, ln_tup, ln_lst, ln_fro, tu_lst, tu_tup, li_tup, li_lst, in_bl, in_int, ix_tup', ix_lst', at_0, at_1, at_2, at_3, canP, Bool.not_true, Bool.not_false, Bool.false_eq_true, Bool.true_and, Bool.and_true, Bool.and_self, decide_true, decide_false, methO, Me.reads, kd_str', kd_tup', kd_lst', kd_dct', or_true, true_or, or_false, false_or, and_true, true_and, and_self, ne_eq, not_false_eq_true, not_true_eq_false, eq_self,  srcP, lockO, unlockO, restP, Option.join_some, lc_some, lc_t, lc_f, fs_some, wipeP, List.length_cons, List.length_nil, Nat.reduceAdd, List.map_cons, List.map_nil, List.cons_append, List.nil_append, List.replicate, Nat.reduceSub, beq_self_eq_true, lcOk, MT.slots, MT.slotss, List.all_cons, List.all_nil, List.contains_cons, List.contains_nil, Bool.true_or, Bool.or_true, Bool.or_false, Bool.false_or, Nat.reduceBEq, rng_len, List.length_map, it_tup, it_lst, is_tup, is_int, is_bl, is_lst, is_str, is_non, rv_tup, hx, pcl, ll]; rfl) ?_
      by_cases ca : a < L.length
      · refine .inr ⟨by simp [on1, lookO, truthP]; omega, ?_⟩
        obtain ⟨x, ex⟩ : ∃ x, L[a]? = some x := ⟨L[a], List.getElem?_eq_getElem ca⟩
        have ew : webV n ts = .tup [.int n, .tup (ts.map tieV)] := rfl
        rw [tk 1]
        simp only [List.take_succ_cons, List.take_zero, List.drop_succ_cons, List.drop_zero]
        have loop : Evq (evTs' X [.for_ (.tp [.nm 5, .nm 6]) .enum (.ix (.var 0) (.c (.int 1))) (.c .non) [
      .ite (.and_ (.cmp .In (.ix (.var 3) (.var 4)) (.slH (.var 6) (.c (.int 2)))) (.cmp .NotIn (.call "beyond" [.var 0, .var 5, .ix (.var 3) (.var 4)]) (.var 2))) [
        .asgSub (.var 2) (.call "beyond" [.var 0, .var 5, .ix (.var 3) (.var 4)]) (.c (.bl true)),
        .expr (.meth .append (.var 3) [.call "beyond" [.var 0, .var 5, .ix (.var 3) (.var 4)]])] []]] [some (webV n ts), some (.int (p : Nat)), some (.dct (dT L)), some (.lst (natsP L)), some (.int (a : Nat)), x5, x6]) fun fl σ => fl = .nx ∧ ∃ M x5 x6, σ = [some (webV n ts), some (.int (p : Nat)), some (.dct (dT M)), some (.lst (natsP M)), some (.int (a : Nat)), x5, x6] ∧ L <+: M ∧ M.Nodup ∧ (∀ q ∈ M, Cn ts p q) ∧ ∀ t ∈ ts, clo t M x := by
          have iw : ixP (webV n ts) (.int 1) = some (.tup (ts.map tieV)) := rfl
          simp -dsimp only [w_int, w_bl, w_str, w_non, w_var, w_glb, w_tup, w_lst, w_bin, w_neg, w_not, w_cmp, w_chain, w_and, w_or, w_ife, w_ix, w_sl, w_slL, w_slH, w_slB, w_rev, w_call, w_blt, w_meth, w_isi, w_dsp, w_rngL, w_rngT, lcSrc, w_lc, w_es0, w_es1, w_ts0, w_ts1, w_asg, subO, w_asgSub, w_expr, w_ret, w_retN, w_ite, w_for, w_whl, w_pass, w_brk, w_cont, w_ss0, w_ss1, th_nx, th_ret, th_brk, th_cont, ob_some, br_t, br_f, qb_ok, qb_assoc, rd_s, rd_non, rd_bl, rd_int, rd_str, rd_tup, rd_lst, rd_fro, rd_dct, lookO, looks, on1, on2, intO, force, forces, forceQ, asgF, asgO, asgP, asgPs, Opd.v, ld_non, ld_bl, ld_int, ld_str, ld_tup, ld_lst, ld_fro, ld_dct, lk_non, lk_bl, lk_int, lk_str, lk_tup, lk_lst, lk_fro, lk_dct, lk_lck, clOf, finQ_ret, finQ_nx, exitQ, outsP, callP, argsP, backP,  List.getElem?_cons_zero, List.getElem?_cons_succ, List.set_cons_zero, List.set_cons_succ, Option.getD_some, Option.map_some, Option.bind_some, reduceCtorEq, ↓reduceIte, if_true, if_false, noRef, noRefs, emb, embs, tr_bl, tr_int, tr_non, tr_tup, tr_lst, bp_add, bp_sub, cp_eqI, cp_neI, cp_eqS, cp_neS, cp_lt, cp_le, cp_gt, cp_ge, cp_in, cp_notin, cp_isN, cp_isnN, isNon, mx_int, mn_int, ln_tup, ln_lst, ln_fro, tu_lst, tu_tup, li_tup, li_lst, in_bl, in_int, ix_tup', ix_lst', at_0, at_1, at_2, at_3, canP, Bool.not_true, Bool.not_false, Bool.false_eq_true, Bool.true_and, Bool.and_true, Bool.and_self, decide_true, decide_false, methO, Me.reads, kd_str', kd_tup', kd_lst', kd_dct', or_true, true_or, or_false, false_or, and_true, true_and, and_self, ne_eq, not_false_eq_true, not_true_eq_false, eq_self,  srcP, lockO, unlockO, restP, Option.join_some, lc_some, lc_t, lc_f, fs_some, wipeP, List.length_cons, List.length_nil, Nat.reduceAdd, List.map_cons, List.map_nil, List.cons_append, List.nil_append, List.replicate, Nat.reduceSub, beq_self_eq_true, lcOk, MT.slots, MT.slotss, List.all_cons, List.all_nil, List.contains_cons, List.contains_nil, Bool.true_or, Bool.or_true, Bool.or_false, Bool.false_or, Nat.reduceBEq, rng_len, List.length_map, it_tup, it_lst, is_tup, is_int, is_bl, is_lst, is_str, is_non, rv_tup, hx, pcl, rd_any lw, iw, it_etup]
          refine .bnd ((forD_inv (fun i σ => ∃ M x5 x6, σ = [some (webV n ts), some (.int (p : Nat)), some (.dct (dT M)), some (.lst (natsP M)), some (.int (a : Nat)), x5, x6] ∧ L <+: M ∧ M.Nodup ∧ (∀ q ∈ M, Cn ts p q) ∧ ∀ j, j < i → clo (tat ts j) M x) ⟨L, _, _, rfl, List.prefix_refl _, hL, hc, fun j hj => by omega⟩ ?_).imp ?_)
          · rintro i v σ hi ⟨M, x5, x6, rfl, hpre, hM, hMc, hMcl⟩
            obtain ⟨hi2, rfl⟩ := enum_at hi
            simp -dsimp only [asgP, asgPs, clOf, fs_some, lc_some, List.getElem?_cons_zero, List.getElem?_cons_succ, List.set_cons_zero, List.set_cons_succ, Option.getD_some, Option.bind_some, Option.map_some, reduceCtorEq, ↓reduceIte, List.length_cons, List.length_nil, ld_int, ld_tup, ld_bl, ld_str, ld_non, isLD, hx, pcl]
            refine (part_turn (L := L) (x5 := none) (x6 := none) hx B hn hpn ok hi2 hM hMc (pre_at hpre ex)).imp ?_
            rintro fl σ ⟨rfl, M', x5, x6, rfl, h1, h2, h3, h4⟩
            refine ⟨.inl rfl, M', x5, x6, rfl, hpre.trans h1, h2, h3, fun j hj => ?_⟩
            by_cases cj : j = i
            · subst cj; exact h4
            · exact clo_mono (hMcl j (by omega)) h1
          · rintro fl σ ⟨rfl, M, x5, x6, rfl, hpre, hM, hMc, hMcl⟩
            have le : (enumP (ts.map tieV)).length = ts.length := by simp [enumP]
            rw [le] at hMcl
            simp -dsimp only [w_int, w_bl, w_str, w_non, w_var, w_glb, w_tup, w_lst, w_bin, w_neg, w_not, w_cmp, w_chain, w_and, w_or, w_ife, w_ix, w_sl, w_slL, w_slH, w_slB, w_rev, w_call, w_blt, w_meth, w_isi, w_dsp, w_rngL, w_rngT, lcSrc, w_lc, w_es0, w_es1, w_ts0, w_ts1, w_asg, subO, w_asgSub, w_expr, w_ret, w_retN, w_ite, w_for, w_whl, w_pass, w_brk, w_cont, w_ss0, w_ss1, th_nx, th_ret, th_brk, th_cont, ob_some, br_t, br_f, qb_ok, qb_assoc, rd_s, rd_non, rd_bl, rd_int, rd_str, rd_tup, rd_lst, rd_fro, rd_dct, lookO, looks, on1, on2, intO, force, forces, forceQ, asgF, asgO, asgP, asgPs, Opd.v, ld_non, ld_bl, ld_int, ld_str, ld_tup, ld_lst, ld_fro, ld_dct, lk_non, lk_bl, lk_int, lk_str, lk_tup, lk_lst, lk_fro, lk_dct, lk_lck, clOf, finQ_ret, finQ_nx, exitQ, outsP, callP, argsP, backP,  List.getElem?_cons_zero, List.getElem?_cons_succ, List.set_cons_zero, List.set_cons_succ, Option.getD_some, Option.map_some, Option.bind_some, reduceCtorEq, ↓reduceIte, if_true, if_false, noRef, noRefs, emb, embs, tr_bl, tr_int, tr_non, tr_tup, tr_lst, bp_add, bp_sub, cp_eqI, cp_neI, cp_eqS, cp_neS, cp_lt, cp_le, cp_gt, cp_ge, cp_in, cp_notin, cp_isN, cp_isnN, isNon, mx_int, mn_int, ln_tup, ln_lst, ln_fro, tu_lst, tu_tup, li_tup, li_lst, in_bl, in_int, ix_tup', ix_lst', at_0, at_1, at_2, at_3, canP, Bool.not_true, Bool.not_false, Bool.false_eq_true, Bool.true_and, Bool.and_true, Bool.and_self, decide_true, decide_false, methO, Me.reads, kd_str', kd_tup', kd_lst', kd_dct', or_true, true_or, or_false, false_or, and_true, true_and, and_self, ne_eq, not_false_eq_true, not_true_eq_false, eq_self,  srcP, lockO, unlockO, restP, Option.join_some, lc_some, lc_t, lc_f, fs_some, wipeP, List.length_cons, List.length_nil, Nat.reduceAdd, List.map_cons, List.map_nil, List.cons_append, List.nil_append, List.replicate, Nat.reduceSub, beq_self_eq_true, lcOk, MT.slots, MT.slotss, List.all_cons, List.all_nil, List.contains_cons, List.contains_nil, Bool.true_or, Bool.or_true, Bool.or_false, Bool.false_or, Nat.reduceBEq, rng_len, List.length_map, it_tup, it_lst, is_tup, is_int, is_bl, is_lst, is_str, is_non, rv_tup, hx, pcl]
            refine .ok ⟨rfl, M, x5, x6, rfl, hpre, hM, hMc, fun t ht => ?_⟩
            obtain ⟨j, hj, rfl⟩ := List.getElem_of_mem ht
            rw [← tat_at hj]
            exact hMcl j hj
        refine .bnd (loop.imp ?_)
        rintro fl σ ⟨rfl, M, x5, x6, rfl, hpre, hM, hMc, hMcl⟩
        have ml : M.length ≤ n := nodup_len hM fun k hk => (hMc k hk).lt ok hpn
        have lm : L.length ≤ M.length := hpre.length_le
        rw [th_nx]
        simp only [List.drop_succ_cons, List.drop_zero]
        simp -dsimp only [w_int, w_bl, w_str, w_non, w_var, w_glb, w_tup, w_lst, w_bin, w_neg, w_not, w_cmp, w_chain, w_and, w_or, w_ife, w_ix, w_sl, w_slL, w_slH, w_slB, w_rev, w_call, w_blt, w_meth, w_isi, w_dsp, w_rngL, w_rngT, lcSrc, w_lc, w_es0, w_es1, w_ts0, w_ts1, w_asg, subO, w_asgSub, w_expr, w_ret, w_retN, w_ite, w_for, w_whl, w_pass, w_brk, w_cont, w_ss0, w_ss1, th_nx, th_ret, th_brk, th_cont, ob_some, br_t, br_f, qb_ok, qb_assoc, rd_s, rd_non, rd_bl, rd_int, rd_str, rd_tup, rd_lst, rd_fro, rd_dct, lookO, looks, on1, on2, intO, force, forces, forceQ, asgF, asgO, asgP, asgPs, Opd.v, ld_non, ld_bl, ld_int, ld_str, ld_tup, ld_lst, ld_fro, ld_dct, lk_non, lk_bl, lk_int, lk_str, lk_tup, lk_lst, lk_fro, lk_dct, lk_lck, clOf, finQ_ret, finQ_nx, exitQ, outsP, callP, argsP, backP,  List.getElem?_cons_zero, List.getElem?_cons_succ, List.set_cons_zero, List.set_cons_succ, Option.getD_some, Option.map_some, Option.bind_some, reduceCtorEq, ↓reduceIte, if_true, if_false, noRef, noRefs, emb, embs, tr_bl, tr_int, tr_non, tr_tup, tr_lst, bp_add, bp_sub, cp_eqI, cp_neI, cp_eqS, cp_neS, cp_lt, cp_le, cp_gt, cp_ge, cp_in, cp_notin, cp_isN, cp_isnN, isNon, mx_int, mn_int, ln_tup, ln_lst, ln_fro, tu_lst, tu_tup, li_tup, li_lst, in_bl, in_int, ix_tup', ix_lst', at_0, at_1, at_2, at_3, canP, Bool.not_true, Bool.not_false, Bool.false_eq_true, Bool.true_and, Bool.and_true, Bool.and_self, decide_true, decide_false, methO, Me.reads, kd_str', kd_tup', kd_lst', kd_dct', or_true, true_or, or_false, false_or, and_true, true_and, and_self, ne_eq, not_false_eq_true, not_true_eq_false, eq_self,  srcP, lockO, unlockO, restP, Option.join_some, lc_some, lc_t, lc_f, fs_some, wipeP, List.length_cons, List.length_nil, Nat.reduceAdd, List.map_cons, List.map_nil, List.cons_append, List.nil_append, List.replicate, Nat.reduceSub, beq_self_eq_true, lcOk, MT.slots, MT.slotss, List.all_cons, List.all_nil, List.contains_cons, List.contains_nil, Bool.true_or, Bool.or_true, Bool.or_false, Bool.false_or, Nat.reduceBEq, rng_len, List.length_map, it_tup, it_lst, is_tup, is_int, is_bl, is_lst, is_str, is_non, rv_tup, hx, pcl]
        refine .ok ⟨.inl rfl, k - 1, by omega, M, a + 1, x5, x6, by simp, hM, hpre.subset hp, hMc, fun j y hj ej t ht => ?_, by omega, by omega⟩
        by_cases cj : j = a
        · subst cj
          obtain rfl : x = y := Option.some.inj ((pre_at hpre ex).symm.trans ej)
          exact hMcl t ht
        · have ej' : L[j]? = some y := by
            rw [List.getElem?_eq_getElem (by omega)]
            have := pre_at hpre (List.getElem?_eq_getElem (show j < L.length by omega))
            rw [← ej, this]
          exact clo_mono (hcl j y (by omega) ej' t ht) hpre
      · refine .inl ⟨by simp [on1, lookO, truthP]; omega, L, _, _, _, rfl, hL, fun q => ⟨hc q, fun h => ?_⟩⟩
        induction h with
        | refl => exact hp
        | @step q r t _ ht e ih =>
          obtain ⟨j, hj, ej⟩ := List.getElem_of_mem ih
          have := hcl j q (by omega) (by rw [List.getElem?_eq_getElem hj, ej]) t ht
          rcases e with ⟨e1, rfl⟩ | ⟨e1, rfl⟩
          · exact this.1 e1
          · exact this.2 e1
    · rintro fl σ ⟨rfl, L, x4, x5, x6, rfl, hL, hm⟩
      obtain ⟨R, e, hR, hp⟩ := sorted_nats hL
      have eR : R = partS n ts p := rise_ext hR (List.pairwise_lt_range.filter _) fun q => by
        rw [hp.mem_iff, hm, partS, List.mem_filter, List.mem_range, cnB_iff]
        exact ⟨fun h => ⟨h.lt ok hpn, h⟩, fun h => h.2⟩
      rw [eR] at e
      simp -dsimp only [w_int, w_bl, w_str, w_non, w_var, w_glb, w_tup, w_lst, w_bin, w_neg, w_not, w_cmp, w_chain, w_and, w_or, w_ife, w_ix, w_sl, w_slL, w_slH, w_slB, w_rev, w_call, w_blt, w_meth, w_isi, w_dsp, w_rngL, w_rngT, lcSrc, w_lc, w_es0, w_es1, w_ts0, w_ts1, w_asg, subO, w_asgSub, w_expr, w_ret, w_retN, w_ite, w_for, w_whl, w_pass, w_brk, w_cont, w_ss0, w_ss1, th_nx, th_ret, th_brk, th_cont, ob_some, br_t, br_f, qb_ok, qb_assoc, rd_s, rd_non, rd_bl, rd_int, rd_str, rd_tup, rd_lst, rd_fro, rd_dct, lookO, looks, on1, on2, intO, force, forces, forceQ, asgF, asgO, asgP, asgPs, Opd.v, ld_non, ld_bl, ld_int, ld_str, ld_tup, ld_lst, ld_fro, ld_dct, lk_non, lk_bl, lk_int, lk_str, lk_tup, lk_lst, lk_fro, lk_dct, lk_lck, clOf, finQ_ret, finQ_nx, exitQ, outsP, callP, argsP, backP,  List.getElem?_cons_zero, List.getElem?_cons_succ, List.set_cons_zero, List.set_cons_succ, Option.getD_some, Option.map_some, Option.bind_some, reduceCtorEq, ↓reduceIte, if_true, if_false, noRef, noRefs, emb, embs, tr_bl, tr_int, tr_non, tr_tup, tr_lst, bp_add, bp_sub, cp_eqI, cp_neI, cp_eqS, cp_neS, cp_lt, cp_le, cp_gt, cp_ge, cp_in, cp_notin, cp_isN, cp_isnN, isNon, mx_int, mn_int, ln_tup, ln_lst, ln_fro, tu_lst, tu_tup, li_tup, li_lst, in_bl, in_int, ix_tup', ix_lst', at_0, at_1, at_2, at_3, canP, Bool.not_true, Bool.not_false, Bool.false_eq_true, Bool.true_and, Bool.and_true, Bool.and_self, decide_true, decide_false, methO, Me.reads, kd_str', kd_tup', kd_lst', kd_dct', or_true, true_or, or_false, false_or, and_true, true_and, and_self, ne_eq, not_false_eq_true, not_true_eq_false, eq_self,  srcP, lockO, unlockO, restP, Option.join_some, lc_some, lc_t, lc_f, fs_some, wipeP, List.length_cons, List.length_nil, Nat.reduceAdd, List.map_cons, List.map_nil, List.cons_append, List.nil_append, List.replicate, Nat.reduceSub, beq_self_eq_true, lcOk, MT.slots, MT.slotss, List.all_cons, List.all_nil, List.contains_cons, List.contains_nil, Bool.true_or, Bool.or_true, Bool.or_false, Bool.false_or, Nat.reduceBEq, rng_len, List.length_map, it_tup, it_lst, is_tup, is_int, is_bl, is_lst, is_str, is_non, rv_tup, hx, pcl, e]
      refine .ok (.ret ?_)
      simp -dsimp only [w_int, w_bl, w_str, w_non, w_var, w_glb, w_tup, w_lst, w_bin, w_neg, w_not, w_cmp, w_chain, w_and, w_or, w_ife, w_ix, w_sl, w_slL, w_slH, w_slB, w_rev, w_call, w_blt, w_meth, w_isi, w_dsp, w_rngL, w_rngT, lcSrc, w_lc, w_es0, w_es1, w_ts0, w_ts1, w_asg, subO, w_asgSub, w_expr, w_ret, w_retN, w_ite, w_for, w_whl, w_pass, w_brk, w_cont, w_ss0, w_ss1, th_nx, th_ret, th_brk, th_cont, ob_some, br_t, br_f, qb_ok, qb_assoc, rd_s, rd_non, rd_bl, rd_int, rd_str, rd_tup, rd_lst, rd_fro, rd_dct, lookO, looks, on1, on2, intO, force, forces, forceQ, asgF, asgO, asgP, asgPs, Opd.v, ld_non, ld_bl, ld_int, ld_str, ld_tup, ld_lst, ld_fro, ld_dct, lk_non, lk_bl, lk_int, lk_str, lk_tup, lk_lst, lk_fro, lk_dct, lk_lck, clOf, finQ_ret, finQ_nx, exitQ, outsP, callP, argsP, backP,  List.getElem?_cons_zero, List.getElem?_cons_succ, List.set_cons_zero, List.set_cons_succ, Option.getD_some, Option.map_some, Option.bind_some, reduceCtorEq, ↓reduceIte, if_true, if_false, noRef, noRefs, emb, embs, tr_bl, tr_int, tr_non, tr_tup, tr_lst, bp_add, bp_sub, cp_eqI, cp_neI, cp_eqS, cp_neS, cp_lt, cp_le, cp_gt, cp_ge, cp_in, cp_notin, cp_isN, cp_isnN, isNon, mx_int, mn_int, ln_tup, ln_lst, ln_fro, tu_lst, tu_tup, li_tup, li_lst, in_bl, in_int, ix_tup', ix_lst', at_0, at_1, at_2, at_3, canP, Bool.not_true, Bool.not_false, Bool.false_eq_true, Bool.true_and, Bool.and_true, Bool.and_self, decide_true, decide_false, methO, Me.reads, kd_str', kd_tup', kd_lst', kd_dct', or_true, true_or, or_false, false_or, and_true, true_and, and_self, ne_eq, not_false_eq_true, not_true_eq_false, eq_self,  srcP, lockO, unlockO, restP, Option.join_some, lc_some, lc_t, lc_f, fs_some, wipeP, List.length_cons, List.length_nil, Nat.reduceAdd, List.map_cons, List.map_nil, List.cons_append, List.nil_append, List.replicate, Nat.reduceSub, beq_self_eq_true, lcOk, MT.slots, MT.slotss, List.all_cons, List.all_nil, List.contains_cons, List.contains_nil, Bool.true_or, Bool.or_true, Bool.or_false, Bool.false_or, Nat.reduceBEq, rng_len, List.length_map, it_tup, it_lst, is_tup, is_int, is_bl, is_lst, is_str, is_non, rv_tup]
      exact .ok ⟨rfl, rfl⟩
  obtain ⟨o, ios, e, rfl, rfl⟩ := fin
  exact e
def partsUp (n : Nat) (ts : List AT) (i : Nat) : List PV := ((List.range i).filter (leastB ts)).map fun p => .tup (natsP (partS n ts p))
theorem partsUp_t {n i : Nat} {ts : List AT} (h : leastB ts i = true) : partsUp n ts (i + 1) = partsUp n ts i ++ [.tup (natsP (partS n ts i))] := by simp [partsUp, List.range_succ, h]
theorem partsUp_f {n i : Nat} {ts : List AT} (h : leastB ts i = false) : partsUp n ts (i + 1) = partsUp n ts i := by simp [partsUp, List.range_succ, h]
theorem partsUp_len {n i : Nat} {ts : List AT} : (partsUp n ts i).length ≤ i := by
  have := List.length_filter_le (leastB ts) (List.range i)
  simpa [partsUp] using this
/-- a look at a web's parts -/
structure Parts (X : CQ) (f : Str) : Prop where
  sig : X.sig f = some ([.pl], false)
  call : ∀ n ts b, n ≤ 1000 → (∀ t ∈ ts, okA b n t) → X.call f [webV n ts] = .ok (.val (.tup (partsUp n ts n))) [webV n ts]
theorem mem_part {n p q : Nat} {ts : List AT} : q ∈ partS n ts p ↔ q < n ∧ Cn ts p q := by rw [partS, List.mem_filter, List.mem_range, cnB_iff]
theorem parts_ok {Γ : Str → Option FP} {gl : Str → Option MV} {W d : Nat} {c : Nat → Cls} (g : Γ "parts_of" = some p_parts_of) (P : ∀ c, PartF ⟨runP Γ gl W d, sigP Γ, c, gl, W⟩) : Parts ⟨runP Γ gl W (d + 1), sigP Γ, c, gl, W⟩ "parts_of" := by
  refine ⟨sig_eq g, fun n ts b hn ok => ?_⟩
  dsimp only
  rw [run_eq g rfl rfl]
  generalize hX : (⟨runP Γ gl W d, sigP Γ, clOf [.sh, .ow, .ow, .sh, .sh], gl, W⟩ : CQ) = X
  have hx : X.cl = clOf [.sh, .ow, .ow, .sh, .sh] := by rw [← hX]
  have P : PartF X := by rw [← hX]; exact P _
  have lw : isLk (webV n ts) = false := rfl
  have i0 : ixP (webV n ts) (.int 0) = some (.int (n : Int)) := rfl
  have fin : Evo (finQ [.pl] false [webV n ts] (evTs' X b_parts_of [some (webV n ts), none, none, none, none])) fun o ios => o = .val (.tup (partsUp n ts n)) ∧ ios = [webV n ts] := by
    refine finQ_ev ?_
    simp only [b_parts_of]
    simp -dsimp only [w_int, w_bl, w_str, w_non, w_var, w_glb, w_tup, w_lst, w_bin, w_neg, w_not, w_cmp, w_chain, w_and, w_or, w_ife, w_ix, w_sl, w_slL, w_slH, w_slB, w_rev, w_call, w_blt, w_meth, w_isi, w_dsp, w_rngL, w_rngT, lcSrc, w_lc, w_es0, w_es1, w_ts0, w_ts1, w_asg, subO, w_asgSub, w_expr, w_ret, w_retN, w_ite, w_for, w_whl, w_pass, w_brk, w_cont, w_ss0, w_ss1, th_nx, th_ret, th_brk, th_cont, ob_some, br_t, br_f, qb_ok, qb_assoc, rd_s, rd_non, rd_bl, rd_int, rd_str, rd_tup, rd_lst, rd_fro, rd_dct, lookO, looks, on1, on2, intO, force, forces, forceQ, asgF, asgO, asgP, asgPs, Opd.v, ld_non, ld_bl, ld_int, ld_str, ld_tup, ld_lst, ld_fro, ld_dct, lk_non, lk_bl, lk_int, lk_str, lk_tup, lk_lst, lk_fro, lk_dct, lk_lck, clOf, finQ_ret, finQ_nx, exitQ, outsP, callP, argsP, backP,  List.getElem?_cons_zero, List.getElem?_cons_succ, List.set_cons_zero, List.set_cons_succ, Option.getD_some, Option.map_some, Option.bind_some, reduceCtorEq, ↓reduceIte, if_true, if_false, noRef, noRefs, emb, embs, tr_bl, tr_int, tr_non, tr_tup, tr_lst, bp_add, bp_sub, cp_eqI, cp_neI, cp_eqS, cp_neS, cp_lt, cp_le, cp_gt, cp_ge, cp_in, cp_notin, cp_isN, cp_isnN, isNon, mx_int, mn_int, ln_tup, ln_lst, ln_fro, tu_lst, tu_tup, li_tup, li_lst, in_bl, in_int, ix_tup', ix_lst', at_0, at_1, at_2, at_3, canP, Bool.not_true, Bool.not_false, Bool.false_eq_true, Bool.true_and, Bool.and_true, Bool.and_self, decide_true, decide_false, methO, Me.reads, kd_str', kd_tup', kd_lst', kd_dct', or_true, true_or, or_false, false_or, and_true, true_and, and_self, ne_eq, not_false_eq_true, not_true_eq_false, eq_self,  srcP, lockO, unlockO, restP, Option.join_some, lc_some, lc_t, lc_f, fs_some, wipeP, List.length_cons, List.length_nil, Nat.reduceAdd, List.map_cons, List.map_nil, List.cons_append, List.nil_append, List.replicate, Nat.reduceSub, beq_self_eq_true, lcOk, MT.slots, MT.slotss, List.all_cons, List.all_nil, List.contains_cons, List.contains_nil, Bool.true_or, Bool.or_true, Bool.or_false, Bool.false_or, Nat.reduceBEq, rng_len, List.length_map, it_tup, it_lst, is_tup, is_int, is_bl, is_lst, is_str, is_non, rv_tup, hx, rd_any lw, i0, pairUpP, List.foldl_nil, it_rng' (show n ≤ 1000000 by omega)]
    refine .bnd ((forD_inv (fun i σ => ∃ K x3 x4, σ = [some (webV n ts), some (.lst (partsUp n ts i)), some (.dct (dT K)), x3, x4] ∧ K.Nodup ∧ (∀ q, q ∈ K ↔ q < n ∧ ∃ p, p < i ∧ Cn ts p q)) ⟨[], _, _, rfl, by simp, by simp⟩ ?_).imp ?_)
    · rintro i v σ hi ⟨K, x3, x4, rfl, hK, hm⟩
      obtain ⟨rfl, hi2⟩ := rng_at hi
      rw [Int.zero_add]
      have ik := dT_in (K := K) (p := i)
      have kl : K.length ≤ n := nodup_len hK fun k hk => ((hm k).mp hk).1
      by_cases c : i ∈ K
      · have hlf : leastB ts i = false := by
          rw [Bool.eq_false_iff]
          intro z
          obtain ⟨_, p, hp, hc⟩ := (hm i).mp c
          exact leastB_iff.mp z p hp hc
        rw [partsUp_f hlf]
        simp -dsimp only [asgP, asgPs, clOf, fs_some, lc_some, List.getElem?_cons_zero, List.getElem?_cons_succ, List.set_cons_zero, List.set_cons_succ, Option.getD_some, Option.bind_some, Option.map_some, reduceCtorEq, ↓reduceIte, List.length_cons, List.length_nil, ld_int, ld_tup, ld_bl, ld_str, ld_non, isLD, hx]
        simp -dsimp only [w_int, w_bl, w_str, w_non, w_var, w_glb, w_tup, w_lst, w_bin, w_neg, w_not, w_cmp, w_chain, w_and, w_or, w_ife, w_ix, w_sl, w_slL, w_slH, w_slB, w_rev, w_call, w_blt, w_meth, w_isi, w_dsp, w_rngL, w_rngT, lcSrc, w_lc, w_es0, w_es1, w_ts0, w_ts1, w_asg, subO, w_asgSub, w_expr, w_ret, w_retN, w_ite, w_for, w_whl, w_pass, w_brk, w_cont, w_ss0, w_ss1, th_nx, th_ret, th_brk, th_cont, ob_some, br_t, br_f, qb_ok, qb_assoc, rd_s, rd_non, rd_bl, rd_int, rd_str, rd_tup, rd_lst, rd_fro, rd_dct, lookO, looks, on1, on2, intO, force, forces, forceQ, asgF, asgO, asgP, asgPs, Opd.v, ld_non, ld_bl, ld_int, ld_str, ld_tup, ld_lst, ld_fro, ld_dct, lk_non, lk_bl, lk_int, lk_str, lk_tup, lk_lst, lk_fro, lk_dct, lk_lck, clOf, finQ_ret, finQ_nx, exitQ, outsP, callP, argsP, backP,  List.getElem?_cons_zero, List.getElem?_cons_succ, List.set_cons_zero, List.set_cons_succ, Option.getD_some, Option.map_some, Option.bind_some, reduceCtorEq, ↓reduceIte, if_true, if_false, noRef, noRefs, emb, embs, tr_bl, tr_int, tr_non, tr_tup, tr_lst, bp_add, bp_sub, cp_eqI, cp_neI, cp_eqS, cp_neS, cp_lt, cp_le, cp_gt, cp_ge, cp_in, cp_notin, cp_isN, cp_isnN, isNon, mx_int, mn_int, ln_tup, ln_lst, ln_fro, tu_lst, tu_tup, li_tup, li_lst, in_bl, in_int, ix_tup', ix_lst', at_0, at_1, at_2, at_3, canP, Bool.not_true, Bool.not_false, Bool.false_eq_true, Bool.true_and, Bool.and_true, Bool.and_self, decide_true, decide_false, methO, Me.reads, kd_str', kd_tup', kd_lst', kd_dct', or_true, true_or, or_false, false_or, and_true, true_and, and_self, ne_eq, not_false_eq_true, not_true_eq_false, eq_self,  srcP, lockO, unlockO, restP, Option.join_some, lc_some, lc_t, lc_f, fs_some, wipeP, List.length_cons, List.length_nil, Nat.reduceAdd, List.map_cons, List.map_nil, List.cons_append, List.nil_append, List.replicate, Nat.reduceSub, beq_self_eq_true, lcOk, MT.slots, MT.slotss, List.all_cons, List.all_nil, List.contains_cons, List.contains_nil, Bool.true_or, Bool.or_true, Bool.or_false, Bool.false_or, Nat.reduceBEq, rng_len, List.length_map, it_tup, it_lst, is_tup, is_int, is_bl, is_lst, is_str, is_non, rv_tup, hx, ik, c]
        refine .ok ⟨.inl rfl, K, _, _, rfl, hK, fun q => ?_⟩
        rw [hm]
        obtain ⟨_, p0, hp0, hc0⟩ := (hm i).mp c
        constructor
        · rintro ⟨h1, p, hp, h2⟩
          exact ⟨h1, p, by omega, h2⟩
        · rintro ⟨h1, p, hp, h2⟩
          by_cases e : p = i
          · subst e; exact ⟨h1, p0, hp0, hc0.trans h2⟩
          · exact ⟨h1, p, by omega, h2⟩
      · have hlt : leastB ts i = true := leastB_iff.mpr fun q hq hc => c ((hm i).mpr ⟨hi2, q, hq, hc⟩)
        have e1 := P.call n ts i b hn hi2 ok
        have al : (partsUp n ts i).length < 1000000 := by have := partsUp_len (n := n) (i := i) (ts := ts); omega
        rw [partsUp_t hlt]
        generalize partsUp n ts i = Z at al
        simp -dsimp only [asgP, asgPs, clOf, fs_some, lc_some, List.getElem?_cons_zero, List.getElem?_cons_succ, List.set_cons_zero, List.set_cons_succ, Option.getD_some, Option.bind_some, Option.map_some, reduceCtorEq, ↓reduceIte, List.length_cons, List.length_nil, ld_int, ld_tup, ld_bl, ld_str, ld_non, isLD, hx]
        simp -dsimp only [w_int, w_bl, w_str, w_non, w_var, w_glb, w_tup, w_lst, w_bin, w_neg, w_not, w_cmp, w_chain, w_and, w_or, w_ife, w_ix, w_sl, w_slL, w_slH, w_slB, w_rev, w_call, w_blt, w_meth, w_isi, w_dsp, w_rngL, w_rngT, lcSrc, w_lc, w_es0, w_es1, w_ts0, w_ts1, w_asg, subO, w_asgSub, w_expr, w_ret, w_retN, w_ite, w_for, w_whl, w_pass, w_brk, w_cont, w_ss0, w_ss1, th_nx, th_ret, th_brk, th_cont, ob_some, br_t, br_f, qb_ok, qb_assoc, rd_s, rd_non, rd_bl, rd_int, rd_str, rd_tup, rd_lst, rd_fro, rd_dct, lookO, looks, on1, on2, intO, force, forces, forceQ, asgF, asgO, asgP, asgPs, Opd.v, ld_non, ld_bl, ld_int, ld_str, ld_tup, ld_lst, ld_fro, ld_dct, lk_non, lk_bl, lk_int, lk_str, lk_tup, lk_lst, lk_fro, lk_dct, lk_lck, clOf, finQ_ret, finQ_nx, exitQ, outsP, callP, argsP, backP,  List.getElem?_cons_zero, List.getElem?_cons_succ, List.set_cons_zero, List.set_cons_succ, Option.getD_some, Option.map_some, Option.bind_some, reduceCtorEq, ↓reduceIte, if_true, if_false, noRef, noRefs, emb, embs, tr_bl, tr_int, tr_non, tr_tup, tr_lst, bp_add, bp_sub, cp_eqI, cp_neI, cp_eqS, cp_neS, cp_lt, cp_le, cp_gt, cp_ge, cp_in, cp_notin, cp_isN, cp_isnN, isNon, mx_int, mn_int, ln_tup, ln_lst, ln_fro, tu_lst, tu_tup, li_tup, li_lst, in_bl, in_int, ix_tup', ix_lst', at_0, at_1, at_2, at_3, canP, Bool.not_true, Bool.not_false, Bool.false_eq_true, Bool.true_and, Bool.and_true, Bool.and_self, decide_true, decide_false, methO, Me.reads, kd_str', kd_tup', kd_lst', kd_dct', or_true, true_or, or_false, false_or, and_true, true_and, and_self, ne_eq, not_false_eq_true, not_true_eq_false, eq_self,  srcP, lockO, unlockO, restP, Option.join_some, lc_some, lc_t, lc_f, fs_some, wipeP, List.length_cons, List.length_nil, Nat.reduceAdd, List.map_cons, List.map_nil, List.cons_append, List.nil_append, List.replicate, Nat.reduceSub, beq_self_eq_true, lcOk, MT.slots, MT.slotss, List.all_cons, List.all_nil, List.contains_cons, List.contains_nil, Bool.true_or, Bool.or_true, Bool.or_false, Bool.false_or, Nat.reduceBEq, rng_len, List.length_map, it_tup, it_lst, is_tup, is_int, is_bl, is_lst, is_str, is_non, rv_tup, hx, ik, c, P.sig, e1, rd_any lw, app_at al, at_last]
        refine .bnd ((forD_inv (fun j σ => ∃ M x4, σ = [some (webV n ts), some (.lst (Z ++ [.tup (natsP (partS n ts i))])), some (.dct (dT M)), some (.int (i : Int)), x4] ∧ M.Nodup ∧ (∀ q ∈ M, q < n) ∧ (∀ q, q ∈ M ↔ q ∈ K ∨ q ∈ (partS n ts i).take j)) ⟨K, _, rfl, hK, fun q hq => ((hm q).mp hq).1, by simp⟩ ?_).imp ?_)
        · rintro j v σ hj ⟨M, x4, rfl, hM, hMn, hMm⟩
          rw [natsP, List.getElem?_map] at hj
          obtain ⟨q, hq, rfl⟩ := Option.map_eq_some_iff.mp hj
          obtain ⟨hq2, hq3⟩ := List.getElem?_eq_some_iff.mp hq
          have ml : M.length ≤ n := nodup_len hM hMn
          have qn : q < n := (mem_part.mp (by rw [← hq3]; exact List.getElem_mem hq2)).1
          have tk1 : (partS n ts i).take (j + 1) = (partS n ts i).take j ++ [q] := by rw [List.take_succ_eq_append_getElem hq2, hq3]
          rw [tk1]
          simp -dsimp only [asgP, asgPs, clOf, fs_some, lc_some, List.getElem?_cons_zero, List.getElem?_cons_succ, List.set_cons_zero, List.set_cons_succ, Option.getD_some, Option.bind_some, Option.map_some, reduceCtorEq, ↓reduceIte, List.length_cons, List.length_nil, ld_int, ld_tup, ld_bl, ld_str, ld_non, isLD, hx]
          by_cases cq : q ∈ M
          · simp -dsimp only [w_int, w_bl, w_str, w_non, w_var, w_glb, w_tup, w_lst, w_bin, w_neg, w_not, w_cmp, w_chain, w_and, w_or, w_ife, w_ix, w_sl, w_slL, w_slH, w_slB, w_rev, w_call, w_blt, w_meth, w_isi, w_dsp, w_rngL, w_rngT, lcSrc, w_lc, w_es0, w_es1, w_ts0, w_ts1, w_asg, subO, w_asgSub, w_expr, w_ret, w_retN, w_ite, w_for, w_whl, w_pass, w_brk, w_cont, w_ss0, w_ss1, th_nx, th_ret, th_brk, th_cont, ob_some, br_t, br_f, qb_ok, qb_assoc, rd_s, rd_non, rd_bl, rd_int, rd_str, rd_tup, rd_lst, rd_fro, rd_dct, lookO, looks, on1, on2, intO, force, forces, forceQ, asgF, asgO, asgP, asgPs, Opd.v, ld_non, ld_bl, ld_int, ld_str, ld_tup, ld_lst, ld_fro, ld_dct, lk_non, lk_bl, lk_int, lk_str, lk_tup, lk_lst, lk_fro, lk_dct, lk_lck, clOf, finQ_ret, finQ_nx, exitQ, outsP, callP, argsP, backP,  List.getElem?_cons_zero, List.getElem?_cons_succ, List.set_cons_zero, List.set_cons_succ, Option.getD_some, Option.map_some, Option.bind_some, reduceCtorEq, ↓reduceIte, if_true, if_false, noRef, noRefs, emb, embs, tr_bl, tr_int, tr_non, tr_tup, tr_lst, bp_add, bp_sub, cp_eqI, cp_neI, cp_eqS, cp_neS, cp_lt, cp_le, cp_gt, cp_ge, cp_in, cp_notin, cp_isN, cp_isnN, isNon, mx_int, mn_int, ln_tup, ln_lst, ln_fro, tu_lst, tu_tup, li_tup, li_lst, in_bl, in_int, ix_tup', ix_lst', at_0, at_1, at_2, at_3, canP, Bool.not_true, Bool.not_false, Bool.false_eq_true, Bool.true_and, Bool.and_true, Bool.and_self, decide_true, decide_false, methO, Me.reads, kd_str', kd_tup', kd_lst', kd_dct', or_true, true_or, or_false, false_or, and_true, true_and, and_self, ne_eq, not_false_eq_true, not_true_eq_false, eq_self,  srcP, lockO, unlockO, restP, Option.join_some, lc_some, lc_t, lc_f, fs_some, wipeP, List.length_cons, List.length_nil, Nat.reduceAdd, List.map_cons, List.map_nil, List.cons_append, List.nil_append, List.replicate, Nat.reduceSub, beq_self_eq_true, lcOk, MT.slots, MT.slotss, List.all_cons, List.all_nil, List.contains_cons, List.contains_nil, Bool.true_or, Bool.or_true, Bool.or_false, Bool.false_or, Nat.reduceBEq, rng_len, List.length_map, it_tup, it_lst, is_tup, is_int, is_bl, is_lst, is_str, is_non, rv_tup, hx, dT_put' cq (by omega)]
            refine .ok ⟨.inl rfl, M, _, rfl, hM, hMn, fun r => ?_⟩
            rw [hMm r, List.mem_append, ← or_assoc, ← hMm r]
            constructor
            · exact .inl
            · rintro (z | z)
              · exact z
              · simp at z; subst z; exact cq
          · simp -dsimp only [w_int, w_bl, w_str, w_non, w_var, w_glb, w_tup, w_lst, w_bin, w_neg, w_not, w_cmp, w_chain, w_and, w_or, w_ife, w_ix, w_sl, w_slL, w_slH, w_slB, w_rev, w_call, w_blt, w_meth, w_isi, w_dsp, w_rngL, w_rngT, lcSrc, w_lc, w_es0, w_es1, w_ts0, w_ts1, w_asg, subO, w_asgSub, w_expr, w_ret, w_retN, w_ite, w_for, w_whl, w_pass, w_brk, w_cont, w_ss0, w_ss1, th_nx, th_ret, th_brk, th_cont, ob_some, br_t, br_f, qb_ok, qb_assoc, rd_s, rd_non, rd_bl, rd_int, rd_str, rd_tup, rd_lst, rd_fro, rd_dct, lookO, looks, on1, on2, intO, force, forces, forceQ, asgF, asgO, asgP, asgPs, Opd.v, ld_non, ld_bl, ld_int, ld_str, ld_tup, ld_lst, ld_fro, ld_dct, lk_non, lk_bl, lk_int, lk_str, lk_tup, lk_lst, lk_fro, lk_dct, lk_lck, clOf, finQ_ret, finQ_nx, exitQ, outsP, callP, argsP, backP,  List.getElem?_cons_zero, List.getElem?_cons_succ, List.set_cons_zero, List.set_cons_succ, Option.getD_some, Option.map_some, Option.bind_some, reduceCtorEq, ↓reduceIte, if_true, if_false, noRef, noRefs, emb, embs, tr_bl, tr_int, tr_non, tr_tup, tr_lst, bp_add, bp_sub, cp_eqI, cp_neI, cp_eqS, cp_neS, cp_lt, cp_le, cp_gt, cp_ge, cp_in, cp_notin, cp_isN, cp_isnN, isNon, mx_int, mn_int, ln_tup, ln_lst, ln_fro, tu_lst, tu_tup, li_tup, li_lst, in_bl, in_int, ix_tup', ix_lst', at_0, at_1, at_2, at_3, canP, Bool.not_true, Bool.not_false, Bool.false_eq_true, Bool.true_and, Bool.and_true, Bool.and_self, decide_true, decide_false, methO, Me.reads, kd_str', kd_tup', kd_lst', kd_dct', or_true, true_or, or_false, false_or, and_true, true_and, and_self, ne_eq, not_false_eq_true, not_true_eq_false, eq_self,  srcP, lockO, unlockO, restP, Option.join_some, lc_some, lc_t, lc_f, fs_some, wipeP, List.length_cons, List.length_nil, Nat.reduceAdd, List.map_cons, List.map_nil, List.cons_append, List.nil_append, List.replicate, Nat.reduceSub, beq_self_eq_true, lcOk, MT.slots, MT.slotss, List.all_cons, List.all_nil, List.contains_cons, List.contains_nil, Bool.true_or, Bool.or_true, Bool.or_false, Bool.false_or, Nat.reduceBEq, rng_len, List.length_map, it_tup, it_lst, is_tup, is_int, is_bl, is_lst, is_str, is_non, rv_tup, hx, dT_put cq (by omega)]
            refine .ok ⟨.inl rfl, M ++ [q], _, rfl, ?_, fun r hr => ?_, fun r => ?_⟩
            · rw [List.nodup_append]
              exact ⟨hM, by simp, fun u hu w hw => by simp at hw; subst hw; exact fun e => cq (e ▸ hu)⟩
            · rcases List.mem_append.mp hr with z | z
              · exact hMn r z
              · simp at z; omega
            · rw [List.mem_append, hMm r, List.mem_append, or_assoc]
        · rintro fl σ ⟨rfl, M, x4, rfl, hM, hMn, hMm⟩
          rw [show (natsP (partS n ts i)).length = (partS n ts i).length by simp [natsP], List.take_length] at hMm
          simp -dsimp only [w_int, w_bl, w_str, w_non, w_var, w_glb, w_tup, w_lst, w_bin, w_neg, w_not, w_cmp, w_chain, w_and, w_or, w_ife, w_ix, w_sl, w_slL, w_slH, w_slB, w_rev, w_call, w_blt, w_meth, w_isi, w_dsp, w_rngL, w_rngT, lcSrc, w_lc, w_es0, w_es1, w_ts0, w_ts1, w_asg, subO, w_asgSub, w_expr, w_ret, w_retN, w_ite, w_for, w_whl, w_pass, w_brk, w_cont, w_ss0, w_ss1, th_nx, th_ret, th_brk, th_cont, ob_some, br_t, br_f, qb_ok, qb_assoc, rd_s, rd_non, rd_bl, rd_int, rd_str, rd_tup, rd_lst, rd_fro, rd_dct, lookO, looks, on1, on2, intO, force, forces, forceQ, asgF, asgO, asgP, asgPs, Opd.v, ld_non, ld_bl, ld_int, ld_str, ld_tup, ld_lst, ld_fro, ld_dct, lk_non, lk_bl, lk_int, lk_str, lk_tup, lk_lst, lk_fro, lk_dct, lk_lck, clOf, finQ_ret, finQ_nx, exitQ, outsP, callP, argsP, backP,  List.getElem?_cons_zero, List.getElem?_cons_succ, List.set_cons_zero, List.set_cons_succ, Option.getD_some, Option.map_some, Option.bind_some, reduceCtorEq, ↓reduceIte, if_true, if_false, noRef, noRefs, emb, embs, tr_bl, tr_int, tr_non, tr_tup, tr_lst, bp_add, bp_sub, cp_eqI, cp_neI, cp_eqS, cp_neS, cp_lt, cp_le, cp_gt, cp_ge, cp_in, cp_notin, cp_isN, cp_isnN, isNon, mx_int, mn_int, ln_tup, ln_lst, ln_fro, tu_lst, tu_tup, li_tup, li_lst, in_bl, in_int, ix_tup', ix_lst', at_0, at_1, at_2, at_3, canP, Bool.not_true, Bool.not_false, Bool.false_eq_true, Bool.true_and, Bool.and_true, Bool.and_self, decide_true, decide_false, methO, Me.reads, kd_str', kd_tup', kd_lst', kd_dct', or_true, true_or, or_false, false_or, and_true, true_and, and_self, ne_eq, not_false_eq_true, not_true_eq_false, eq_self,  srcP, lockO, unlockO, restP, Option.join_some, lc_some, lc_t, lc_f, fs_some, wipeP, List.length_cons, List.length_nil, Nat.reduceAdd, List.map_cons, List.map_nil, List.cons_append, List.nil_append, List.replicate, Nat.reduceSub, beq_self_eq_true, lcOk, MT.slots, MT.slotss, List.all_cons, List.all_nil, List.contains_cons, List.contains_nil, Bool.true_or, Bool.or_true, Bool.or_false, Bool.false_or, Nat.reduceBEq, rng_len, List.length_map, it_tup, it_lst, is_tup, is_int, is_bl, is_lst, is_str, is_non, rv_tup, hx]
          refine .ok ⟨.inl rfl, M, _, _, rfl, hM, fun q => ?_⟩
          rw [hMm, hm, mem_part]
          constructor
          · rintro (⟨h1, p, hp, h2⟩ | ⟨h1, h2⟩)
            · exact ⟨h1, p, by omega, h2⟩
            · exact ⟨h1, i, by omega, h2⟩
          · rintro ⟨h1, p, hp, h2⟩
            by_cases e : p = i
            · subst e; exact .inr ⟨h1, h2⟩
            · exact .inl ⟨h1, p, by omega, h2⟩
    · rintro fl σ ⟨rfl, K, x3, x4, rfl, hK, hm⟩
      rw [rng_len]
      generalize partsUp n ts n = Z
      simp -dsimp only [w_int, w_bl, w_str, w_non, w_var, w_glb, w_tup, w_lst, w_bin, w_neg, w_not, w_cmp, w_chain, w_and, w_or, w_ife, w_ix, w_sl, w_slL, w_slH, w_slB, w_rev, w_call, w_blt, w_meth, w_isi, w_dsp, w_rngL, w_rngT, lcSrc, w_lc, w_es0, w_es1, w_ts0, w_ts1, w_asg, subO, w_asgSub, w_expr, w_ret, w_retN, w_ite, w_for, w_whl, w_pass, w_brk, w_cont, w_ss0, w_ss1, th_nx, th_ret, th_brk, th_cont, ob_some, br_t, br_f, qb_ok, qb_assoc, rd_s, rd_non, rd_bl, rd_int, rd_str, rd_tup, rd_lst, rd_fro, rd_dct, lookO, looks, on1, on2, intO, force, forces, forceQ, asgF, asgO, asgP, asgPs, Opd.v, ld_non, ld_bl, ld_int, ld_str, ld_tup, ld_lst, ld_fro, ld_dct, lk_non, lk_bl, lk_int, lk_str, lk_tup, lk_lst, lk_fro, lk_dct, lk_lck, clOf, finQ_ret, finQ_nx, exitQ, outsP, callP, argsP, backP,  List.getElem?_cons_zero, List.getElem?_cons_succ, List.set_cons_zero, List.set_cons_succ, Option.getD_some, Option.map_some, Option.bind_some, reduceCtorEq, ↓reduceIte, if_true, if_false, noRef, noRefs, emb, embs, tr_bl, tr_int, tr_non, tr_tup, tr_lst, bp_add, bp_sub, cp_eqI, cp_neI, cp_eqS, cp_neS, cp_lt, cp_le, cp_gt, cp_ge, cp_in, cp_notin, cp_isN, cp_isnN, isNon, mx_int, mn_int, ln_tup, ln_lst, ln_fro, tu_lst, tu_tup, li_tup, li_lst, in_bl, in_int, ix_tup', ix_lst', at_0, at_1, at_2, at_3, canP, Bool.not_true, Bool.not_false, Bool.false_eq_true, Bool.true_and, Bool.and_true, Bool.and_self, decide_true, decide_false, methO, Me.reads, kd_str', kd_tup', kd_lst', kd_dct', or_true, true_or, or_false, false_or, and_true, true_and, and_self, ne_eq, not_false_eq_true, not_true_eq_false, eq_self,  srcP, lockO, unlockO, restP, Option.join_some, lc_some, lc_t, lc_f, fs_some, wipeP, List.length_cons, List.length_nil, Nat.reduceAdd, List.map_cons, List.map_nil, List.cons_append, List.nil_append, List.replicate, Nat.reduceSub, beq_self_eq_true, lcOk, MT.slots, MT.slotss, List.all_cons, List.all_nil, List.contains_cons, List.contains_nil, Bool.true_or, Bool.or_true, Bool.or_false, Bool.false_or, Nat.reduceBEq, rng_len, List.length_map, it_tup, it_lst, is_tup, is_int, is_bl, is_lst, is_str, is_non, rv_tup, hx]
      refine .ok (.ret ?_)
      simp -dsimp only [w_int, w_bl, w_str, w_non, w_var, w_glb, w_tup, w_lst, w_bin, w_neg, w_not, w_cmp, w_chain, w_and, w_or, w_ife, w_ix, w_sl, w_slL, w_slH, w_slB, w_rev, w_call, w_blt, w_meth, w_isi, w_dsp, w_rngL, w_rngT, lcSrc, w_lc, w_es0, w_es1, w_ts0, w_ts1, w_asg, subO, w_asgSub, w_expr, w_ret, w_retN, w_ite, w_for, w_whl, w_pass, w_brk, w_cont, w_ss0, w_ss1, th_nx, th_ret, th_brk, th_cont, ob_some, br_t, br_f, qb_ok, qb_assoc, rd_s, rd_non, rd_bl, rd_int, rd_str, rd_tup, rd_lst, rd_fro, rd_dct, lookO, looks, on1, on2, intO, force, forces, forceQ, asgF, asgO, asgP, asgPs, Opd.v, ld_non, ld_bl, ld_int, ld_str, ld_tup, ld_lst, ld_fro, ld_dct, lk_non, lk_bl, lk_int, lk_str, lk_tup, lk_lst, lk_fro, lk_dct, lk_lck, clOf, finQ_ret, finQ_nx, exitQ, outsP, callP, argsP, backP,  List.getElem?_cons_zero, List.getElem?_cons_succ, List.set_cons_zero, List.set_cons_succ, Option.getD_some, Option.map_some, Option.bind_some, reduceCtorEq, ↓reduceIte, if_true, if_false, noRef, noRefs, emb, embs, tr_bl, tr_int, tr_non, tr_tup, tr_lst, bp_add, bp_sub, cp_eqI, cp_neI, cp_eqS, cp_neS, cp_lt, cp_le, cp_gt, cp_ge, cp_in, cp_notin, cp_isN, cp_isnN, isNon, mx_int, mn_int, ln_tup, ln_lst, ln_fro, tu_lst, tu_tup, li_tup, li_lst, in_bl, in_int, ix_tup', ix_lst', at_0, at_1, at_2, at_3, canP, Bool.not_true, Bool.not_false, Bool.false_eq_true, Bool.true_and, Bool.and_true, Bool.and_self, decide_true, decide_false, methO, Me.reads, kd_str', kd_tup', kd_lst', kd_dct', or_true, true_or, or_false, false_or, and_true, true_and, and_self, ne_eq, not_false_eq_true, not_true_eq_false, eq_self,  srcP, lockO, unlockO, restP, Option.join_some, lc_some, lc_t, lc_f, fs_some, wipeP, List.length_cons, List.length_nil, Nat.reduceAdd, List.map_cons, List.map_nil, List.cons_append, List.nil_append, List.replicate, Nat.reduceSub, beq_self_eq_true, lcOk, MT.slots, MT.slotss, List.all_cons, List.all_nil, List.contains_cons, List.contains_nil, Bool.true_or, Bool.or_true, Bool.or_false, Bool.false_or, Nat.reduceBEq, rng_len, List.length_map, it_tup, it_lst, is_tup, is_int, is_bl, is_lst, is_str, is_non, rv_tup]
      exact .ok ⟨rfl, rfl⟩
  obtain ⟨o, ios, e, rfl, rfl⟩ := fin
  exact e
/-! the law's own parts, by names -/
structure Nm (ts : List AT) (n i : Nat) (f : Nat → Nat) : Prop where
  tie : ∀ j, j < i → f (tat ts j).1 = f (tat ts j).2.1
  cn : ∀ p, Cn ts p (f p)
  fix : ∀ p, f (f p) = f p
  le : ∀ p, f p ≤ p
theorem Nm.step {ts : List AT} {n i : Nat} {f : Nat → Nat} (h : Nm ts n i f) (hi : i < ts.length) : Nm ts n (i + 1) fun p => if f p = max (f (tat ts i).1) (f (tat ts i).2.1) then min (f (tat ts i).1) (f (tat ts i).2.1) else f p := by
  have ht := tat_mem hi
  have ha := h.cn (tat ts i).1
  have hb := h.cn (tat ts i).2.1
  have hab := Cn.one ht
  have fa := h.fix (tat ts i).1
  have fb := h.fix (tat ts i).2.1
  generalize hA : f (tat ts i).1 = na at *
  generalize hB : f (tat ts i).2.1 = nb at *
  have cn : Cn ts (max na nb) (min na nb) := by
    have h1 : Cn ts na nb := ha.symm.trans (hab.trans hb)
    rcases Nat.le_total na nb with c | c
    · rw [Nat.max_eq_right c, Nat.min_eq_left c]; exact h1.symm
    · rw [Nat.max_eq_left c, Nat.min_eq_right c]; exact h1
  have fo : f (min na nb) = min na nb := by
    rcases Nat.le_total na nb with c | c
    · rw [Nat.min_eq_left c]; exact fa
    · rw [Nat.min_eq_right c]; exact fb
  refine ⟨fun j hj => ?_, fun p => ?_, fun p => ?_, fun p => ?_⟩
  · by_cases c : j = i
    · subst c
      simp only [hA, hB]
      split <;> split <;> omega
    · simp only [h.tie j (by omega)]
  · split
    · rename_i e
      exact (e ▸ h.cn p).trans cn
    · exact h.cn p
  · by_cases c : f p = max na nb
    · rw [if_pos c, fo]
      split <;> omega
    · rw [if_neg c, h.fix p, if_neg c]
  · have := h.le p
    split <;> omega
theorem Nm.iff {ts : List AT} {n : Nat} {f : Nat → Nat} (h : Nm ts n ts.length f) {p q : Nat} : f p = f q ↔ Cn ts p q := by
  constructor
  · intro e
    exact (h.cn p).trans (e ▸ (h.cn q).symm)
  · intro hc
    induction hc with
    | refl => rfl
    | @step q r t _ ht e ih =>
      obtain ⟨j, hj, ej⟩ := List.getElem_of_mem ht
      have := h.tie j hj
      rw [tat_at hj, ej] at this
      rcases e with ⟨rfl, rfl⟩ | ⟨rfl, rfl⟩
      · rw [ih, this]
      · rw [ih, this]
theorem Nm.least {ts : List AT} {n : Nat} {f : Nat → Nat} (h : Nm ts n ts.length f) {p : Nat} : (f p == p) = leastB ts p := by
  rw [Bool.eq_iff_iff, beq_iff_eq, leastB_iff]
  constructor
  · intro e q hq hc
    have := h.iff.mpr hc
    have := h.le q
    omega
  · intro hl
    have h1 := h.le p
    rcases Nat.lt_or_eq_of_le h1 with c | c
    · exact absurd (h.cn p).symm (hl _ c)
    · exact c
theorem Nm.part {ts : List AT} {n : Nat} {f : Nat → Nat} (h : Nm ts n ts.length f) {p : Nat} (e : f p = p) : ((List.range n).filter fun k => f k == p) = partS n ts p := by
  unfold partS
  refine List.filter_congr fun k _ => ?_
  rw [Bool.eq_iff_iff, beq_iff_eq, cnB_iff]
  constructor
  · intro z; exact h.iff.mp (by rw [e, z])
  · intro z; rw [← h.iff.mpr z, e]
def nmP (n : Nat) (f : Nat → Nat) : List PV := natsP ((List.range n).map f)
theorem at_nm {n a : Nat} {f : Nat → Nat} (h : a < n) : atI (nmP n f) (a : Int) = some (.int ((f a : Nat) : Int)) := by
  rw [at_nat, nmP, natsP, List.getElem?_map, List.getElem?_map, List.getElem?_range h]; rfl
def lpc : List Cls := [.sh, .sh, .sh, .sh, .sh, .sh, .sh, .sh, .ow, .sh, .sh]
theorem lparts_ok {Γ : Str → Option FP} {gl : Str → Option MV} {W d : Nat} {c : Nat → Cls} (g : Γ "_law_parts" = some p_x_parts) : Parts ⟨runP Γ gl W (d + 1), sigP Γ, c, gl, W⟩ "_law_parts" := by
  refine ⟨sig_eq g, fun n ts b hn ok => ?_⟩
  dsimp only
  rw [run_eq g rfl rfl]
  generalize hX : (⟨runP Γ gl W d, sigP Γ, clOf [.sh, .sh, .sh, .sh, .sh, .sh, .sh, .sh, .ow, .sh, .sh], gl, W⟩ : CQ) = X
  have hx : X.cl = clOf lpc := by rw [← hX]; rfl
  have lw : isLk (webV n ts) = false := rfl
  have i0 : ixP (webV n ts) (.int 0) = some (.int (n : Int)) := rfl
  have i1 : ixP (webV n ts) (.int 1) = some (.tup (ts.map tieV)) := rfl
  have fin : Evo (finQ [.pl] false [webV n ts] (evTs' X b_x_parts [some (webV n ts), none, none, none, none, none, none, none, none, none, none])) fun o ios => o = .val (.tup (partsUp n ts n)) ∧ ios = [webV n ts] := by
    refine finQ_ev ?_
    simp only [b_x_parts]
    have er : rngIP 0 n = nmP n fun p => p := by rw [rng_nats, nmP, List.map_id']
    simp -dsimp only [w_int, w_bl, w_str, w_non, w_var, w_glb, w_tup, w_lst, w_bin, w_neg, w_not, w_cmp, w_chain, w_and, w_or, w_ife, w_ix, w_sl, w_slL, w_slH, w_slB, w_rev, w_call, w_blt, w_meth, w_isi, w_dsp, w_rngL, w_rngT, lcSrc, w_lc, w_es0, w_es1, w_ts0, w_ts1, w_asg, subO, w_asgSub, w_expr, w_ret, w_retN, w_ite, w_for, w_whl, w_pass, w_brk, w_cont, w_ss0, w_ss1, th_nx, th_ret, th_brk, th_cont, ob_some, br_t, br_f, qb_ok, qb_assoc, rd_s, rd_non, rd_bl, rd_int, rd_str, rd_tup, rd_lst, rd_fro, rd_dct, lookO, looks, on1, on2, intO, force, forces, forceQ, asgF, asgO, asgP, asgPs, Opd.v, ld_non, ld_bl, ld_int, ld_str, ld_tup, ld_lst, ld_fro, ld_dct, lk_non, lk_bl, lk_int, lk_str, lk_tup, lk_lst, lk_fro, lk_dct, lk_lck, clOf, finQ_ret, finQ_nx, exitQ, outsP, callP, argsP, backP,  List.getElem?_cons_zero, List.getElem?_cons_succ, List.set_cons_zero, List.set_cons_succ, Option.getD_some, Option.map_some, Option.bind_some, reduceCtorEq, ↓reduceIte, if_true, if_false, noRef, noRefs, emb, embs, tr_bl, tr_int, tr_non, tr_tup, tr_lst, bp_add, bp_sub, cp_eqI, cp_neI, cp_eqS, cp_neS, cp_lt, cp_le, cp_gt, cp_ge, cp_in, cp_notin, cp_isN, cp_isnN, isNon, mx_int, mn_int, ln_tup, ln_lst, ln_fro, tu_lst, tu_tup, li_tup, li_lst, in_bl, in_int, ix_tup', ix_lst', at_0, at_1, at_2, at_3, canP, Bool.not_true, Bool.not_false, Bool.false_eq_true, Bool.true_and, Bool.and_true, Bool.and_self, decide_true, decide_false, methO, Me.reads, kd_str', kd_tup', kd_lst', kd_dct', or_true, true_or, or_false, false_or, and_true, true_and, and_self, ne_eq, not_false_eq_true, not_true_eq_false, eq_self,  srcP, lockO, unlockO, restP, Option.join_some, lc_some, lc_t, lc_f, fs_some, wipeP, List.length_cons, List.length_nil, Nat.reduceAdd, List.map_cons, List.map_nil, List.cons_append, List.nil_append, List.replicate, Nat.reduceSub, beq_self_eq_true, lcOk, MT.slots, MT.slotss, List.all_cons, List.all_nil, List.contains_cons, List.contains_nil, Bool.true_or, Bool.or_true, Bool.or_false, Bool.false_or, Nat.reduceBEq, rng_len, List.length_map, it_tup, it_lst, is_tup, is_int, is_bl, is_lst, is_str, is_non, rv_tup, hx, lpc, rd_any lw, i0, i1, rngP_ok (show n ≤ 1000000 by omega)]
    rw [er]
    refine .bnd ((forD_inv (fun i σ => ∃ f x2 x3 x4 x5 x6, σ = [some (webV n ts), some (.lst (nmP n f)), x2, x3, x4, x5, x6, none, none, none, none] ∧ Nm ts n i f) ⟨_, _, _, _, _, _, rfl, ⟨fun j hj => by omega, fun p => .refl, fun p => rfl, fun p => Nat.le_refl _⟩⟩ ?_).imp ?_)
    · rintro i v σ hi ⟨f, x2, x3, x4, x5, x6, rfl, hf⟩
      rw [List.getElem?_map] at hi
      obtain ⟨t, ht, rfl⟩ := Option.map_eq_some_iff.mp hi
      obtain ⟨hi2, ht2⟩ := List.getElem?_eq_some_iff.mp ht
      have et : tat ts i = t := by rw [tat_at hi2, ht2]
      obtain ⟨o1, o2, _⟩ := ok t (by rw [← ht2]; exact List.getElem_mem _)
      have hf2 := hf.step hi2
      rw [et] at hf2
      have a1 := at_nm (f := f) (show t.1 < n by omega)
      have a2 := at_nm (f := f) o2
      have mn : (if ((f t.2.1 : Nat) : Int) < ((f t.1 : Nat) : Int) then ((f t.2.1 : Nat) : Int) else ((f t.1 : Nat) : Int)) = ((min (f t.1) (f t.2.1) : Nat) : Int) := by split <;> omega
      have mx : (if ((f t.1 : Nat) : Int) < ((f t.2.1 : Nat) : Int) then ((f t.2.1 : Nat) : Int) else ((f t.1 : Nat) : Int)) = ((max (f t.1) (f t.2.1) : Nat) : Int) := by split <;> omega
      have b1 : bltP .min [.int ((f t.1 : Nat) : Int), .int ((f t.2.1 : Nat) : Int)] = some (.val (.int ((min (f t.1) (f t.2.1) : Nat) : Int))) := by rw [mn_int, mn]
      have b2 : bltP .max [.int ((f t.1 : Nat) : Int), .int ((f t.2.1 : Nat) : Int)] = some (.val (.int ((max (f t.1) (f t.2.1) : Nat) : Int))) := by rw [mx_int, ← mx]
      have ll : (nmP n f).length = n := by simp [nmP, natsP]
      generalize min (f t.1) (f t.2.1) = u at *
      generalize max (f t.1) (f t.2.1) = w at *
      have lt : tieV t = .tup [.int t.1, .int t.2.1, .int t.2.2] := rfl
      rw [lt]
      clear b1 b2
      have b1 : bltP .min [.int ((f t.1 : Nat) : Int), .int ((f t.2.1 : Nat) : Int)] = some (.val (.int (u : Int))) := by rw [mn_int, mn]
      have b2 : bltP .max [.int ((f t.1 : Nat) : Int), .int ((f t.2.1 : Nat) : Int)] = some (.val (.int (w : Int))) := by rw [mx_int, ← mx]
      simp -dsimp only [asgP, asgPs, clOf, fs_some, lc_some, List.getElem?_cons_zero, List.getElem?_cons_succ, List.set_cons_zero, List.set_cons_succ, Option.getD_some, Option.bind_some, Option.map_some, reduceCtorEq, ↓reduceIte, List.length_cons, List.length_nil, ld_int, ld_tup, ld_bl, ld_str, ld_non, isLD, hx, lpc]
      simp -dsimp only [w_int, w_bl, w_str, w_non, w_var, w_glb, w_tup, w_lst, w_bin, w_neg, w_not, w_cmp, w_chain, w_and, w_or, w_ife, w_ix, w_sl, w_slL, w_slH, w_slB, w_rev, w_call, w_blt, w_meth, w_isi, w_dsp, w_rngL, w_rngT, lcSrc, w_lc, w_es0, w_es1, w_ts0, w_ts1, w_asg, subO, w_asgSub, w_expr, w_ret, w_retN, w_ite, w_for, w_whl, w_pass, w_brk, w_cont, w_ss0, w_ss1, th_nx, th_ret, th_brk, th_cont, ob_some, br_t, br_f, qb_ok, qb_assoc, rd_s, rd_non, rd_bl, rd_int, rd_str, rd_tup, rd_lst, rd_fro, rd_dct, lookO, looks, on1, on2, intO, force, forces, forceQ, asgF, asgO, asgP, asgPs, Opd.v, ld_non, ld_bl, ld_int, ld_str, ld_tup, ld_lst, ld_fro, ld_dct, lk_non, lk_bl, lk_int, lk_str, lk_tup, lk_lst, lk_fro, lk_dct, lk_lck, clOf, finQ_ret, finQ_nx, exitQ, outsP, callP, argsP, backP,  List.getElem?_cons_zero, List.getElem?_cons_succ, List.set_cons_zero, List.set_cons_succ, Option.getD_some, Option.map_some, Option.bind_some, reduceCtorEq, ↓reduceIte, if_true, if_false, noRef, noRefs, emb, embs, tr_bl, tr_int, tr_non, tr_tup, tr_lst, bp_add, bp_sub, cp_eqI, cp_neI, cp_eqS, cp_neS, cp_lt, cp_le, cp_gt, cp_ge, cp_in, cp_notin, cp_isN, cp_isnN, isNon, mx_int, mn_int, ln_tup, ln_lst, ln_fro, tu_lst, tu_tup, li_tup, li_lst, in_bl, in_int, ix_tup', ix_lst', at_0, at_1, at_2, at_3, canP, Bool.not_true, Bool.not_false, Bool.false_eq_true, Bool.true_and, Bool.and_true, Bool.and_self, decide_true, decide_false, methO, Me.reads, kd_str', kd_tup', kd_lst', kd_dct', or_true, true_or, or_false, false_or, and_true, true_and, and_self, ne_eq, not_false_eq_true, not_true_eq_false, eq_self,  srcP, lockO, unlockO, restP, Option.join_some, lc_some, lc_t, lc_f, fs_some, wipeP, List.length_cons, List.length_nil, Nat.reduceAdd, List.map_cons, List.map_nil, List.cons_append, List.nil_append, List.replicate, Nat.reduceSub, beq_self_eq_true, lcOk, MT.slots, MT.slotss, List.all_cons, List.all_nil, List.contains_cons, List.contains_nil, Bool.true_or, Bool.or_true, Bool.or_false, Bool.false_or, Nat.reduceBEq, rng_len, List.length_map, it_tup, it_lst, is_tup, is_int, is_bl, is_lst, is_str, is_non, rv_tup, hx, lpc, a1, a2, mn, mx, gt_iff_lt, ll, lm_le (show n ≤ 1000000 by omega)]
      rw [nmP, compD_nats (g := fun q : Nat => some (.int ((if q = w then u else q : Nat) : Int)))]
      · have en : ((List.range n).map f).filterMap (fun q : Nat => some (PV.int ((if q = w then u else q : Nat) : Int))) = nmP n fun p => if f p = w then u else f p := by
          have : (fun q : Nat => some (PV.int ((if q = w then u else q : Nat) : Int))) = some ∘ fun q : Nat => PV.int ((if q = w then u else q : Nat) : Int) := rfl
          rw [this, List.filterMap_eq_map]
          simp [nmP, natsP, Function.comp_def]
        rw [en]
        simp -dsimp only [w_int, w_bl, w_str, w_non, w_var, w_glb, w_tup, w_lst, w_bin, w_neg, w_not, w_cmp, w_chain, w_and, w_or, w_ife, w_ix, w_sl, w_slL, w_slH, w_slB, w_rev, w_call, w_blt, w_meth, w_isi, w_dsp, w_rngL, w_rngT, lcSrc, w_lc, w_es0, w_es1, w_ts0, w_ts1, w_asg, subO, w_asgSub, w_expr, w_ret, w_retN, w_ite, w_for, w_whl, w_pass, w_brk, w_cont, w_ss0, w_ss1, th_nx, th_ret, th_brk, th_cont, ob_some, br_t, br_f, qb_ok, qb_assoc, rd_s, rd_non, rd_bl, rd_int, rd_str, rd_tup, rd_lst, rd_fro, rd_dct, lookO, looks, on1, on2, intO, force, forces, forceQ, asgF, asgO, asgP, asgPs, Opd.v, ld_non, ld_bl, ld_int, ld_str, ld_tup, ld_lst, ld_fro, ld_dct, lk_non, lk_bl, lk_int, lk_str, lk_tup, lk_lst, lk_fro, lk_dct, lk_lck, clOf, finQ_ret, finQ_nx, exitQ, outsP, callP, argsP, backP,  List.getElem?_cons_zero, List.getElem?_cons_succ, List.set_cons_zero, List.set_cons_succ, Option.getD_some, Option.map_some, Option.bind_some, reduceCtorEq, ↓reduceIte, if_true, if_false, noRef, noRefs, emb, embs, tr_bl, tr_int, tr_non, tr_tup, tr_lst, bp_add, bp_sub, cp_eqI, cp_neI, cp_eqS, cp_neS, cp_lt, cp_le, cp_gt, cp_ge, cp_in, cp_notin, cp_isN, cp_isnN, isNon, mx_int, mn_int, ln_tup, ln_lst, ln_fro, tu_lst, tu_tup, li_tup, li_lst, in_bl, in_int, ix_tup', ix_lst', at_0, at_1, at_2, at_3, canP, Bool.not_true, Bool.not_false, Bool.false_eq_true, Bool.true_and, Bool.and_true, Bool.and_self, decide_true, decide_false, methO, Me.reads, kd_str', kd_tup', kd_lst', kd_dct', or_true, true_or, or_false, false_or, and_true, true_and, and_self, ne_eq, not_false_eq_true, not_true_eq_false, eq_self,  srcP, lockO, unlockO, restP, Option.join_some, lc_some, lc_t, lc_f, fs_some, wipeP, List.length_cons, List.length_nil, Nat.reduceAdd, List.map_cons, List.map_nil, List.cons_append, List.nil_append, List.replicate, Nat.reduceSub, beq_self_eq_true, lcOk, MT.slots, MT.slotss, List.all_cons, List.all_nil, List.contains_cons, List.contains_nil, Bool.true_or, Bool.or_true, Bool.or_false, Bool.false_or, Nat.reduceBEq, rng_len, List.length_map, it_tup, it_lst, is_tup, is_int, is_bl, is_lst, is_str, is_non, rv_tup, hx, lpc]
        exact .ok ⟨.inl rfl, _, _, _, _, _, _, rfl, hf2⟩
      · intro q hq
        by_cases cq : q = w
        · subst cq
          simp -dsimp only [w_int, w_bl, w_str, w_non, w_var, w_glb, w_tup, w_lst, w_bin, w_neg, w_not, w_cmp, w_chain, w_and, w_or, w_ife, w_ix, w_sl, w_slL, w_slH, w_slB, w_rev, w_call, w_blt, w_meth, w_isi, w_dsp, w_rngL, w_rngT, lcSrc, w_lc, w_es0, w_es1, w_ts0, w_ts1, w_asg, subO, w_asgSub, w_expr, w_ret, w_retN, w_ite, w_for, w_whl, w_pass, w_brk, w_cont, w_ss0, w_ss1, th_nx, th_ret, th_brk, th_cont, ob_some, br_t, br_f, qb_ok, qb_assoc, rd_s, rd_non, rd_bl, rd_int, rd_str, rd_tup, rd_lst, rd_fro, rd_dct, lookO, looks, on1, on2, intO, force, forces, forceQ, asgF, asgO, asgP, asgPs, Opd.v, ld_non, ld_bl, ld_int, ld_str, ld_tup, ld_lst, ld_fro, ld_dct, lk_non, lk_bl, lk_int, lk_str, lk_tup, lk_lst, lk_fro, lk_dct, lk_lck, clOf, finQ_ret, finQ_nx, exitQ, outsP, callP, argsP, backP,  List.getElem?_cons_zero, List.getElem?_cons_succ, List.set_cons_zero, List.set_cons_succ, Option.getD_some, Option.map_some, Option.bind_some, reduceCtorEq, ↓reduceIte, if_true, if_false, noRef, noRefs, emb, embs, tr_bl, tr_int, tr_non, tr_tup, tr_lst, bp_add, bp_sub, cp_eqI, cp_neI, cp_eqS, cp_neS, cp_lt, cp_le, cp_gt, cp_ge, cp_in, cp_notin, cp_isN, cp_isnN, isNon, mx_int, mn_int, ln_tup, ln_lst, ln_fro, tu_lst, tu_tup, li_tup, li_lst, in_bl, in_int, ix_tup', ix_lst', at_0, at_1, at_2, at_3, canP, Bool.not_true, Bool.not_false, Bool.false_eq_true, Bool.true_and, Bool.and_true, Bool.and_self, decide_true, decide_false, methO, Me.reads, kd_str', kd_tup', kd_lst', kd_dct', or_true, true_or, or_false, false_or, and_true, true_and, and_self, ne_eq, not_false_eq_true, not_true_eq_false, eq_self,  srcP, lockO, unlockO, restP, Option.join_some, lc_some, lc_t, lc_f, fs_some, wipeP, List.length_cons, List.length_nil, Nat.reduceAdd, List.map_cons, List.map_nil, List.cons_append, List.nil_append, List.replicate, Nat.reduceSub, beq_self_eq_true, lcOk, MT.slots, MT.slotss, List.all_cons, List.all_nil, List.contains_cons, List.contains_nil, Bool.true_or, Bool.or_true, Bool.or_false, Bool.false_or, Nat.reduceBEq, rng_len, List.length_map, it_tup, it_lst, is_tup, is_int, is_bl, is_lst, is_str, is_non, rv_tup, hx, lpc]
          exact .ok ⟨rfl, rfl⟩
        · have cq' : ((q : Int) == (w : Int)) = false := beq_eq_false_iff_ne.mpr (by omega)
          simp -dsimp only [w_int, w_bl, w_str, w_non, w_var, w_glb, w_tup, w_lst, w_bin, w_neg, w_not, w_cmp, w_chain, w_and, w_or, w_ife, w_ix, w_sl, w_slL, w_slH, w_slB, w_rev, w_call, w_blt, w_meth, w_isi, w_dsp, w_rngL, w_rngT, lcSrc, w_lc, w_es0, w_es1, w_ts0, w_ts1, w_asg, subO, w_asgSub, w_expr, w_ret, w_retN, w_ite, w_for, w_whl, w_pass, w_brk, w_cont, w_ss0, w_ss1, th_nx, th_ret, th_brk, th_cont, ob_some, br_t, br_f, qb_ok, qb_assoc, rd_s, rd_non, rd_bl, rd_int, rd_str, rd_tup, rd_lst, rd_fro, rd_dct, lookO, looks, on1, on2, intO, force, forces, forceQ, asgF, asgO, asgP, asgPs, Opd.v, ld_non, ld_bl, ld_int, ld_str, ld_tup, ld_lst, ld_fro, ld_dct, lk_non, lk_bl, lk_int, lk_str, lk_tup, lk_lst, lk_fro, lk_dct, lk_lck, clOf, finQ_ret, finQ_nx, exitQ, outsP, callP, argsP, backP,  List.getElem?_cons_zero, List.getElem?_cons_succ, List.set_cons_zero, List.set_cons_succ, Option.getD_some, Option.map_some, Option.bind_some, reduceCtorEq, ↓reduceIte, if_true, if_false, noRef, noRefs, emb, embs, tr_bl, tr_int, tr_non, tr_tup, tr_lst, bp_add, bp_sub, cp_eqI, cp_neI, cp_eqS, cp_neS, cp_lt, cp_le, cp_gt, cp_ge, cp_in, cp_notin, cp_isN, cp_isnN, isNon, mx_int, mn_int, ln_tup, ln_lst, ln_fro, tu_lst, tu_tup, li_tup, li_lst, in_bl, in_int, ix_tup', ix_lst', at_0, at_1, at_2, at_3, canP, Bool.not_true, Bool.not_false, Bool.false_eq_true, Bool.true_and, Bool.and_true, Bool.and_self, decide_true, decide_false, methO, Me.reads, kd_str', kd_tup', kd_lst', kd_dct', or_true, true_or, or_false, false_or, and_true, true_and, and_self, ne_eq, not_false_eq_true, not_true_eq_false, eq_self,  srcP, lockO, unlockO, restP, Option.join_some, lc_some, lc_t, lc_f, fs_some, wipeP, List.length_cons, List.length_nil, Nat.reduceAdd, List.map_cons, List.map_nil, List.cons_append, List.nil_append, List.replicate, Nat.reduceSub, beq_self_eq_true, lcOk, MT.slots, MT.slotss, List.all_cons, List.all_nil, List.contains_cons, List.contains_nil, Bool.true_or, Bool.or_true, Bool.or_false, Bool.false_or, Nat.reduceBEq, rng_len, List.length_map, it_tup, it_lst, is_tup, is_int, is_bl, is_lst, is_str, is_non, rv_tup, hx, lpc, cq', cq]
          exact .ok ⟨rfl, rfl⟩
    · rintro fl σ ⟨rfl, f, x2, x3, x4, x5, x6, rfl, hf⟩
      rw [List.length_map] at hf
      simp -dsimp only [w_int, w_bl, w_str, w_non, w_var, w_glb, w_tup, w_lst, w_bin, w_neg, w_not, w_cmp, w_chain, w_and, w_or, w_ife, w_ix, w_sl, w_slL, w_slH, w_slB, w_rev, w_call, w_blt, w_meth, w_isi, w_dsp, w_rngL, w_rngT, lcSrc, w_lc, w_es0, w_es1, w_ts0, w_ts1, w_asg, subO, w_asgSub, w_expr, w_ret, w_retN, w_ite, w_for, w_whl, w_pass, w_brk, w_cont, w_ss0, w_ss1, th_nx, th_ret, th_brk, th_cont, ob_some, br_t, br_f, qb_ok, qb_assoc, rd_s, rd_non, rd_bl, rd_int, rd_str, rd_tup, rd_lst, rd_fro, rd_dct, lookO, looks, on1, on2, intO, force, forces, forceQ, asgF, asgO, asgP, asgPs, Opd.v, ld_non, ld_bl, ld_int, ld_str, ld_tup, ld_lst, ld_fro, ld_dct, lk_non, lk_bl, lk_int, lk_str, lk_tup, lk_lst, lk_fro, lk_dct, lk_lck, clOf, finQ_ret, finQ_nx, exitQ, outsP, callP, argsP, backP,  List.getElem?_cons_zero, List.getElem?_cons_succ, List.set_cons_zero, List.set_cons_succ, Option.getD_some, Option.map_some, Option.bind_some, reduceCtorEq, ↓reduceIte, if_true, if_false, noRef, noRefs, emb, embs, tr_bl, tr_int, tr_non, tr_tup, tr_lst, bp_add, bp_sub, cp_eqI, cp_neI, cp_eqS, cp_neS, cp_lt, cp_le, cp_gt, cp_ge, cp_in, cp_notin, cp_isN, cp_isnN, isNon, mx_int, mn_int, ln_tup, ln_lst, ln_fro, tu_lst, tu_tup, li_tup, li_lst, in_bl, in_int, ix_tup', ix_lst', at_0, at_1, at_2, at_3, canP, Bool.not_true, Bool.not_false, Bool.false_eq_true, Bool.true_and, Bool.and_true, Bool.and_self, decide_true, decide_false, methO, Me.reads, kd_str', kd_tup', kd_lst', kd_dct', or_true, true_or, or_false, false_or, and_true, true_and, and_self, ne_eq, not_false_eq_true, not_true_eq_false, eq_self,  srcP, lockO, unlockO, restP, Option.join_some, lc_some, lc_t, lc_f, fs_some, wipeP, List.length_cons, List.length_nil, Nat.reduceAdd, List.map_cons, List.map_nil, List.cons_append, List.nil_append, List.replicate, Nat.reduceSub, beq_self_eq_true, lcOk, MT.slots, MT.slotss, List.all_cons, List.all_nil, List.contains_cons, List.contains_nil, Bool.true_or, Bool.or_true, Bool.or_false, Bool.false_or, Nat.reduceBEq, rng_len, List.length_map, it_tup, it_lst, is_tup, is_int, is_bl, is_lst, is_str, is_non, rv_tup, hx, lpc, rd_any lw, i0, it_rng' (show n ≤ 1000000 by omega)]
      refine .bnd ((forD_inv (fun i σ => ∃ x9, σ = [some (webV n ts), some (.lst (nmP n f)), x2, x3, x4, x5, x6, none, some (.lst (partsUp n ts i)), x9, none]) ⟨_, rfl⟩ ?_).imp ?_)
      · rintro i v σ hi ⟨x9, rfl⟩
        obtain ⟨rfl, hi2⟩ := rng_at hi
        rw [Int.zero_add]
        have a1 := at_nm (f := f) hi2
        have hl := hf.least (p := i)
        have al : (partsUp n ts i).length < 1000000 := by have := partsUp_len (n := n) (i := i) (ts := ts); omega
        by_cases c : f i = i
        · have c1 : (((f i : Nat) : Int) == (i : Int)) = true := by rw [c]; exact beq_self_eq_true _
          rw [c, beq_self_eq_true] at hl
          rw [partsUp_t hl.symm]
          have hp := hf.part c
          generalize partsUp n ts i = Z at al
          simp -dsimp only [asgP, asgPs, clOf, fs_some, lc_some, List.getElem?_cons_zero, List.getElem?_cons_succ, List.set_cons_zero, List.set_cons_succ, Option.getD_some, Option.bind_some, Option.map_some, reduceCtorEq, ↓reduceIte, List.length_cons, List.length_nil, ld_int, ld_tup, ld_bl, ld_str, ld_non, isLD, hx, lpc]
          simp -dsimp only [w_int, w_bl, w_str, w_non, w_var, w_glb, w_tup, w_lst, w_bin, w_neg, w_not, w_cmp, w_chain, w_and, w_or, w_ife, w_ix, w_sl, w_slL, w_slH, w_slB, w_rev, w_call, w_blt, w_meth, w_isi, w_dsp, w_rngL, w_rngT, lcSrc, w_lc, w_es0, w_es1, w_ts0, w_ts1, w_asg, subO, w_asgSub, w_expr, w_ret, w_retN, w_ite, w_for, w_whl, w_pass, w_brk, w_cont, w_ss0, w_ss1, th_nx, th_ret, th_brk, th_cont, ob_some, br_t, br_f, qb_ok, qb_assoc, rd_s, rd_non, rd_bl, rd_int, rd_str, rd_tup, rd_lst, rd_fro, rd_dct, lookO, looks, on1, on2, intO, force, forces, forceQ, asgF, asgO, asgP, asgPs, Opd.v, ld_non, ld_bl, ld_int, ld_str, ld_tup, ld_lst, ld_fro, ld_dct, lk_non, lk_bl, lk_int, lk_str, lk_tup, lk_lst, lk_fro, lk_dct, lk_lck, clOf, finQ_ret, finQ_nx, exitQ, outsP, callP, argsP, backP,  List.getElem?_cons_zero, List.getElem?_cons_succ, List.set_cons_zero, List.set_cons_succ, Option.getD_some, Option.map_some, Option.bind_some, reduceCtorEq, ↓reduceIte, if_true, if_false, noRef, noRefs, emb, embs, tr_bl, tr_int, tr_non, tr_tup, tr_lst, bp_add, bp_sub, cp_eqI, cp_neI, cp_eqS, cp_neS, cp_lt, cp_le, cp_gt, cp_ge, cp_in, cp_notin, cp_isN, cp_isnN, isNon, mx_int, mn_int, ln_tup, ln_lst, ln_fro, tu_lst, tu_tup, li_tup, li_lst, in_bl, in_int, ix_tup', ix_lst', at_0, at_1, at_2, at_3, canP, Bool.not_true, Bool.not_false, Bool.false_eq_true, Bool.true_and, Bool.and_true, Bool.and_self, decide_true, decide_false, methO, Me.reads, kd_str', kd_tup', kd_lst', kd_dct', or_true, true_or, or_false, false_or, and_true, true_and, and_self, ne_eq, not_false_eq_true, not_true_eq_false, eq_self,  srcP, lockO, unlockO, restP, Option.join_some, lc_some, lc_t, lc_f, fs_some, wipeP, List.length_cons, List.length_nil, Nat.reduceAdd, List.map_cons, List.map_nil, List.cons_append, List.nil_append, List.replicate, Nat.reduceSub, beq_self_eq_true, lcOk, MT.slots, MT.slotss, List.all_cons, List.all_nil, List.contains_cons, List.contains_nil, Bool.true_or, Bool.or_true, Bool.or_false, Bool.false_or, Nat.reduceBEq, rng_len, List.length_map, it_tup, it_lst, is_tup, is_int, is_bl, is_lst, is_str, is_non, rv_tup, hx, lpc, a1, c1, rd_any lw, i0, it_rng' (show n ≤ 1000000 by omega), lm_le (show n ≤ 1000000 by omega)]
          rw [rng_nats, compD_nats (g := fun k : Nat => if (f k == i) = true then some (.int (k : Int)) else none)]
          · rw [filterMap_if, hp]
            have en : (partS n ts i).map (fun k : Nat => PV.int (k : Int)) = natsP (partS n ts i) := rfl
            rw [en]
            generalize partS n ts i = pp
            simp -dsimp only [w_int, w_bl, w_str, w_non, w_var, w_glb, w_tup, w_lst, w_bin, w_neg, w_not, w_cmp, w_chain, w_and, w_or, w_ife, w_ix, w_sl, w_slL, w_slH, w_slB, w_rev, w_call, w_blt, w_meth, w_isi, w_dsp, w_rngL, w_rngT, lcSrc, w_lc, w_es0, w_es1, w_ts0, w_ts1, w_asg, subO, w_asgSub, w_expr, w_ret, w_retN, w_ite, w_for, w_whl, w_pass, w_brk, w_cont, w_ss0, w_ss1, th_nx, th_ret, th_brk, th_cont, ob_some, br_t, br_f, qb_ok, qb_assoc, rd_s, rd_non, rd_bl, rd_int, rd_str, rd_tup, rd_lst, rd_fro, rd_dct, lookO, looks, on1, on2, intO, force, forces, forceQ, asgF, asgO, asgP, asgPs, Opd.v, ld_non, ld_bl, ld_int, ld_str, ld_tup, ld_lst, ld_fro, ld_dct, lk_non, lk_bl, lk_int, lk_str, lk_tup, lk_lst, lk_fro, lk_dct, lk_lck, clOf, finQ_ret, finQ_nx, exitQ, outsP, callP, argsP, backP,  List.getElem?_cons_zero, List.getElem?_cons_succ, List.set_cons_zero, List.set_cons_succ, Option.getD_some, Option.map_some, Option.bind_some, reduceCtorEq, ↓reduceIte, if_true, if_false, noRef, noRefs, emb, embs, tr_bl, tr_int, tr_non, tr_tup, tr_lst, bp_add, bp_sub, cp_eqI, cp_neI, cp_eqS, cp_neS, cp_lt, cp_le, cp_gt, cp_ge, cp_in, cp_notin, cp_isN, cp_isnN, isNon, mx_int, mn_int, ln_tup, ln_lst, ln_fro, tu_lst, tu_tup, li_tup, li_lst, in_bl, in_int, ix_tup', ix_lst', at_0, at_1, at_2, at_3, canP, Bool.not_true, Bool.not_false, Bool.false_eq_true, Bool.true_and, Bool.and_true, Bool.and_self, decide_true, decide_false, methO, Me.reads, kd_str', kd_tup', kd_lst', kd_dct', or_true, true_or, or_false, false_or, and_true, true_and, and_self, ne_eq, not_false_eq_true, not_true_eq_false, eq_self,  srcP, lockO, unlockO, restP, Option.join_some, lc_some, lc_t, lc_f, fs_some, wipeP, List.length_cons, List.length_nil, Nat.reduceAdd, List.map_cons, List.map_nil, List.cons_append, List.nil_append, List.replicate, Nat.reduceSub, beq_self_eq_true, lcOk, MT.slots, MT.slotss, List.all_cons, List.all_nil, List.contains_cons, List.contains_nil, Bool.true_or, Bool.or_true, Bool.or_false, Bool.false_or, Nat.reduceBEq, rng_len, List.length_map, it_tup, it_lst, is_tup, is_int, is_bl, is_lst, is_str, is_non, rv_tup, hx, lpc, app_at al]
            exact .ok ⟨.inl rfl, _, rfl⟩
          · intro k hk
            have a2 := at_nm (f := f) (List.mem_range.mp hk)
            by_cases ck : f k = i
            · have ck1 : (((f k : Nat) : Int) == (i : Int)) = true := by rw [ck]; exact beq_self_eq_true _
              have ck2 : (f k == i) = true := by rw [ck]; exact beq_self_eq_true _
              simp -dsimp only [w_int, w_bl, w_str, w_non, w_var, w_glb, w_tup, w_lst, w_bin, w_neg, w_not, w_cmp, w_chain, w_and, w_or, w_ife, w_ix, w_sl, w_slL, w_slH, w_slB, w_rev, w_call, w_blt, w_meth, w_isi, w_dsp, w_rngL, w_rngT, lcSrc, w_lc, w_es0, w_es1, w_ts0, w_ts1, w_asg, subO, w_asgSub, w_expr, w_ret, w_retN, w_ite, w_for, w_whl, w_pass, w_brk, w_cont, w_ss0, w_ss1, th_nx, th_ret, th_brk, th_cont, ob_some, br_t, br_f, qb_ok, qb_assoc, rd_s, rd_non, rd_bl, rd_int, rd_str, rd_tup, rd_lst, rd_fro, rd_dct, lookO, looks, on1, on2, intO, force, forces, forceQ, asgF, asgO, asgP, asgPs, Opd.v, ld_non, ld_bl, ld_int, ld_str, ld_tup, ld_lst, ld_fro, ld_dct, lk_non, lk_bl, lk_int, lk_str, lk_tup, lk_lst, lk_fro, lk_dct, lk_lck, clOf, finQ_ret, finQ_nx, exitQ, outsP, callP, argsP, backP,  List.getElem?_cons_zero, List.getElem?_cons_succ, List.set_cons_zero, List.set_cons_succ, Option.getD_some, Option.map_some, Option.bind_some, reduceCtorEq, ↓reduceIte, if_true, if_false, noRef, noRefs, emb, embs, tr_bl, tr_int, tr_non, tr_tup, tr_lst, bp_add, bp_sub, cp_eqI, cp_neI, cp_eqS, cp_neS, cp_lt, cp_le, cp_gt, cp_ge, cp_in, cp_notin, cp_isN, cp_isnN, isNon, mx_int, mn_int, ln_tup, ln_lst, ln_fro, tu_lst, tu_tup, li_tup, li_lst, in_bl, in_int, ix_tup', ix_lst', at_0, at_1, at_2, at_3, canP, Bool.not_true, Bool.not_false, Bool.false_eq_true, Bool.true_and, Bool.and_true, Bool.and_self, decide_true, decide_false, methO, Me.reads, kd_str', kd_tup', kd_lst', kd_dct', or_true, true_or, or_false, false_or, and_true, true_and, and_self, ne_eq, not_false_eq_true, not_true_eq_false, eq_self,  srcP, lockO, unlockO, restP, Option.join_some, lc_some, lc_t, lc_f, fs_some, wipeP, List.length_cons, List.length_nil, Nat.reduceAdd, List.map_cons, List.map_nil, List.cons_append, List.nil_append, List.replicate, Nat.reduceSub, beq_self_eq_true, lcOk, MT.slots, MT.slotss, List.all_cons, List.all_nil, List.contains_cons, List.contains_nil, Bool.true_or, Bool.or_true, Bool.or_false, Bool.false_or, Nat.reduceBEq, rng_len, List.length_map, it_tup, it_lst, is_tup, is_int, is_bl, is_lst, is_str, is_non, rv_tup, hx, lpc, a2, ck1, ck2]
              exact .ok ⟨rfl, rfl⟩
            · have ck1 : (((f k : Nat) : Int) == (i : Int)) = false := beq_eq_false_iff_ne.mpr (by omega)
              have ck2 : (f k == i) = false := beq_eq_false_iff_ne.mpr ck
              simp -dsimp only [w_int, w_bl, w_str, w_non, w_var, w_glb, w_tup, w_lst, w_bin, w_neg, w_not, w_cmp, w_chain, w_and, w_or, w_ife, w_ix, w_sl, w_slL, w_slH, w_slB, w_rev, w_call, w_blt, w_meth, w_isi, w_dsp, w_rngL, w_rngT, lcSrc, w_lc, w_es0, w_es1, w_ts0, w_ts1, w_asg, subO, w_asgSub, w_expr, w_ret, w_retN, w_ite, w_for, w_whl, w_pass, w_brk, w_cont, w_ss0, w_ss1, th_nx, th_ret, th_brk, th_cont, ob_some, br_t, br_f, qb_ok, qb_assoc, rd_s, rd_non, rd_bl, rd_int, rd_str, rd_tup, rd_lst, rd_fro, rd_dct, lookO, looks, on1, on2, intO, force, forces, forceQ, asgF, asgO, asgP, asgPs, Opd.v, ld_non, ld_bl, ld_int, ld_str, ld_tup, ld_lst, ld_fro, ld_dct, lk_non, lk_bl, lk_int, lk_str, lk_tup, lk_lst, lk_fro, lk_dct, lk_lck, clOf, finQ_ret, finQ_nx, exitQ, outsP, callP, argsP, backP,  List.getElem?_cons_zero, List.getElem?_cons_succ, List.set_cons_zero, List.set_cons_succ, Option.getD_some, Option.map_some, Option.bind_some, reduceCtorEq, ↓reduceIte, if_true, if_false, noRef, noRefs, emb, embs, tr_bl, tr_int, tr_non, tr_tup, tr_lst, bp_add, bp_sub, cp_eqI, cp_neI, cp_eqS, cp_neS, cp_lt, cp_le, cp_gt, cp_ge, cp_in, cp_notin, cp_isN, cp_isnN, isNon, mx_int, mn_int, ln_tup, ln_lst, ln_fro, tu_lst, tu_tup, li_tup, li_lst, in_bl, in_int, ix_tup', ix_lst', at_0, at_1, at_2, at_3, canP, Bool.not_true, Bool.not_false, Bool.false_eq_true, Bool.true_and, Bool.and_true, Bool.and_self, decide_true, decide_false, methO, Me.reads, kd_str', kd_tup', kd_lst', kd_dct', or_true, true_or, or_false, false_or, and_true, true_and, and_self, ne_eq, not_false_eq_true, not_true_eq_false, eq_self,  srcP, lockO, unlockO, restP, Option.join_some, lc_some, lc_t, lc_f, fs_some, wipeP, List.length_cons, List.length_nil, Nat.reduceAdd, List.map_cons, List.map_nil, List.cons_append, List.nil_append, List.replicate, Nat.reduceSub, beq_self_eq_true, lcOk, MT.slots, MT.slotss, List.all_cons, List.all_nil, List.contains_cons, List.contains_nil, Bool.true_or, Bool.or_true, Bool.or_false, Bool.false_or, Nat.reduceBEq, rng_len, List.length_map, it_tup, it_lst, is_tup, is_int, is_bl, is_lst, is_str, is_non, rv_tup, hx, lpc, a2, ck1, ck2]
              exact .ok ⟨rfl, rfl⟩
        · have c1 : (((f i : Nat) : Int) == (i : Int)) = false := beq_eq_false_iff_ne.mpr (by omega)
          rw [beq_eq_false_iff_ne.mpr c] at hl
          rw [partsUp_f hl.symm]
          simp -dsimp only [asgP, asgPs, clOf, fs_some, lc_some, List.getElem?_cons_zero, List.getElem?_cons_succ, List.set_cons_zero, List.set_cons_succ, Option.getD_some, Option.bind_some, Option.map_some, reduceCtorEq, ↓reduceIte, List.length_cons, List.length_nil, ld_int, ld_tup, ld_bl, ld_str, ld_non, isLD, hx, lpc]
          simp -dsimp only [w_int, w_bl, w_str, w_non, w_var, w_glb, w_tup, w_lst, w_bin, w_neg, w_not, w_cmp, w_chain, w_and, w_or, w_ife, w_ix, w_sl, w_slL, w_slH, w_slB, w_rev, w_call, w_blt, w_meth, w_isi, w_dsp, w_rngL, w_rngT, lcSrc, w_lc, w_es0, w_es1, w_ts0, w_ts1, w_asg, subO, w_asgSub, w_expr, w_ret, w_retN, w_ite, w_for, w_whl, w_pass, w_brk, w_cont, w_ss0, w_ss1, th_nx, th_ret, th_brk, th_cont, ob_some, br_t, br_f, qb_ok, qb_assoc, rd_s, rd_non, rd_bl, rd_int, rd_str, rd_tup, rd_lst, rd_fro, rd_dct, lookO, looks, on1, on2, intO, force, forces, forceQ, asgF, asgO, asgP, asgPs, Opd.v, ld_non, ld_bl, ld_int, ld_str, ld_tup, ld_lst, ld_fro, ld_dct, lk_non, lk_bl, lk_int, lk_str, lk_tup, lk_lst, lk_fro, lk_dct, lk_lck, clOf, finQ_ret, finQ_nx, exitQ, outsP, callP, argsP, backP,  List.getElem?_cons_zero, List.getElem?_cons_succ, List.set_cons_zero, List.set_cons_succ, Option.getD_some, Option.map_some, Option.bind_some, reduceCtorEq, ↓reduceIte, if_true, if_false, noRef, noRefs, emb, embs, tr_bl, tr_int, tr_non, tr_tup, tr_lst, bp_add, bp_sub, cp_eqI, cp_neI, cp_eqS, cp_neS, cp_lt, cp_le, cp_gt, cp_ge, cp_in, cp_notin, cp_isN, cp_isnN, isNon, mx_int, mn_int, ln_tup, ln_lst, ln_fro, tu_lst, tu_tup, li_tup, li_lst, in_bl, in_int, ix_tup', ix_lst', at_0, at_1, at_2, at_3, canP, Bool.not_true, Bool.not_false, Bool.false_eq_true, Bool.true_and, Bool.and_true, Bool.and_self, decide_true, decide_false, methO, Me.reads, kd_str', kd_tup', kd_lst', kd_dct', or_true, true_or, or_false, false_or, and_true, true_and, and_self, ne_eq, not_false_eq_true, not_true_eq_false, eq_self,  srcP, lockO, unlockO, restP, Option.join_some, lc_some, lc_t, lc_f, fs_some, wipeP, List.length_cons, List.length_nil, Nat.reduceAdd, List.map_cons, List.map_nil, List.cons_append, List.nil_append, List.replicate, Nat.reduceSub, beq_self_eq_true, lcOk, MT.slots, MT.slotss, List.all_cons, List.all_nil, List.contains_cons, List.contains_nil, Bool.true_or, Bool.or_true, Bool.or_false, Bool.false_or, Nat.reduceBEq, rng_len, List.length_map, it_tup, it_lst, is_tup, is_int, is_bl, is_lst, is_str, is_non, rv_tup, hx, lpc, a1, c1]
          exact .ok ⟨.inl rfl, _, rfl⟩
      · rintro fl σ ⟨rfl, x9, rfl⟩
        rw [rng_len]
        generalize partsUp n ts n = Z
        simp -dsimp only [w_int, w_bl, w_str, w_non, w_var, w_glb, w_tup, w_lst, w_bin, w_neg, w_not, w_cmp, w_chain, w_and, w_or, w_ife, w_ix, w_sl, w_slL, w_slH, w_slB, w_rev, w_call, w_blt, w_meth, w_isi, w_dsp, w_rngL, w_rngT, lcSrc, w_lc, w_es0, w_es1, w_ts0, w_ts1, w_asg, subO, w_asgSub, w_expr, w_ret, w_retN, w_ite, w_for, w_whl, w_pass, w_brk, w_cont, w_ss0, w_ss1, th_nx, th_ret, th_brk, th_cont, ob_some, br_t, br_f, qb_ok, qb_assoc, rd_s, rd_non, rd_bl, rd_int, rd_str, rd_tup, rd_lst, rd_fro, rd_dct, lookO, looks, on1, on2, intO, force, forces, forceQ, asgF, asgO, asgP, asgPs, Opd.v, ld_non, ld_bl, ld_int, ld_str, ld_tup, ld_lst, ld_fro, ld_dct, lk_non, lk_bl, lk_int, lk_str, lk_tup, lk_lst, lk_fro, lk_dct, lk_lck, clOf, finQ_ret, finQ_nx, exitQ, outsP, callP, argsP, backP,  List.getElem?_cons_zero, List.getElem?_cons_succ, List.set_cons_zero, List.set_cons_succ, Option.getD_some, Option.map_some, Option.bind_some, reduceCtorEq, ↓reduceIte, if_true, if_false, noRef, noRefs, emb, embs, tr_bl, tr_int, tr_non, tr_tup, tr_lst, bp_add, bp_sub, cp_eqI, cp_neI, cp_eqS, cp_neS, cp_lt, cp_le, cp_gt, cp_ge, cp_in, cp_notin, cp_isN, cp_isnN, isNon, mx_int, mn_int, ln_tup, ln_lst, ln_fro, tu_lst, tu_tup, li_tup, li_lst, in_bl, in_int, ix_tup', ix_lst', at_0, at_1, at_2, at_3, canP, Bool.not_true, Bool.not_false, Bool.false_eq_true, Bool.true_and, Bool.and_true, Bool.and_self, decide_true, decide_false, methO, Me.reads, kd_str', kd_tup', kd_lst', kd_dct', or_true, true_or, or_false, false_or, and_true, true_and, and_self, ne_eq, not_false_eq_true, not_true_eq_false, eq_self,  srcP, lockO, unlockO, restP, Option.join_some, lc_some, lc_t, lc_f, fs_some, wipeP, List.length_cons, List.length_nil, Nat.reduceAdd, List.map_cons, List.map_nil, List.cons_append, List.nil_append, List.replicate, Nat.reduceSub, beq_self_eq_true, lcOk, MT.slots, MT.slotss, List.all_cons, List.all_nil, List.contains_cons, List.contains_nil, Bool.true_or, Bool.or_true, Bool.or_false, Bool.false_or, Nat.reduceBEq, rng_len, List.length_map, it_tup, it_lst, is_tup, is_int, is_bl, is_lst, is_str, is_non, rv_tup, hx, lpc]
        refine .ok (.ret ?_)
        simp -dsimp only [w_int, w_bl, w_str, w_non, w_var, w_glb, w_tup, w_lst, w_bin, w_neg, w_not, w_cmp, w_chain, w_and, w_or, w_ife, w_ix, w_sl, w_slL, w_slH, w_slB, w_rev, w_call, w_blt, w_meth, w_isi, w_dsp, w_rngL, w_rngT, lcSrc, w_lc, w_es0, w_es1, w_ts0, w_ts1, w_asg, subO, w_asgSub, w_expr, w_ret, w_retN, w_ite, w_for, w_whl, w_pass, w_brk, w_cont, w_ss0, w_ss1, th_nx, th_ret, th_brk, th_cont, ob_some, br_t, br_f, qb_ok, qb_assoc, rd_s, rd_non, rd_bl, rd_int, rd_str, rd_tup, rd_lst, rd_fro, rd_dct, lookO, looks, on1, on2, intO, force, forces, forceQ, asgF, asgO, asgP, asgPs, Opd.v, ld_non, ld_bl, ld_int, ld_str, ld_tup, ld_lst, ld_fro, ld_dct, lk_non, lk_bl, lk_int, lk_str, lk_tup, lk_lst, lk_fro, lk_dct, lk_lck, clOf, finQ_ret, finQ_nx, exitQ, outsP, callP, argsP, backP,  List.getElem?_cons_zero, List.getElem?_cons_succ, List.set_cons_zero, List.set_cons_succ, Option.getD_some, Option.map_some, Option.bind_some, reduceCtorEq, ↓reduceIte, if_true, if_false, noRef, noRefs, emb, embs, tr_bl, tr_int, tr_non, tr_tup, tr_lst, bp_add, bp_sub, cp_eqI, cp_neI, cp_eqS, cp_neS, cp_lt, cp_le, cp_gt, cp_ge, cp_in, cp_notin, cp_isN, cp_isnN, isNon, mx_int, mn_int, ln_tup, ln_lst, ln_fro, tu_lst, tu_tup, li_tup, li_lst, in_bl, in_int, ix_tup', ix_lst', at_0, at_1, at_2, at_3, canP, Bool.not_true, Bool.not_false, Bool.false_eq_true, Bool.true_and, Bool.and_true, Bool.and_self, decide_true, decide_false, methO, Me.reads, kd_str', kd_tup', kd_lst', kd_dct', or_true, true_or, or_false, false_or, and_true, true_and, and_self, ne_eq, not_false_eq_true, not_true_eq_false, eq_self,  srcP, lockO, unlockO, restP, Option.join_some, lc_some, lc_t, lc_f, fs_some, wipeP, List.length_cons, List.length_nil, Nat.reduceAdd, List.map_cons, List.map_nil, List.cons_append, List.nil_append, List.replicate, Nat.reduceSub, beq_self_eq_true, lcOk, MT.slots, MT.slotss, List.all_cons, List.all_nil, List.contains_cons, List.contains_nil, Bool.true_or, Bool.or_true, Bool.or_false, Bool.false_or, Nat.reduceBEq, rng_len, List.length_map, it_tup, it_lst, is_tup, is_int, is_bl, is_lst, is_str, is_non, rv_tup]
        exact .ok ⟨rfl, rfl⟩
  obtain ⟨o, ios, e, rfl, rfl⟩ := fin
  exact e
end GA
end Mn

set_option autoImplicit false
set_option maxHeartbeats 1000000
/-! L04: law k04 over trees. -/
namespace Mn
namespace L04
open PySem L2 GA
/-- 0 _law_feed_here, 1 _law_web_here, 2 _law_left, 3 _law_names, 4 _law_k, 5 _law_ties, 6 _law_a, 7 _law_b, 8 _law_price_here -/
def b_x_called : List MS := [
  .asg (.nm 2) (.rngL (.c (.int 0)) (.ix (.var 1) (.c (.int 0)))),
  .asg (.nm 3) (.lc (.meth .pop (.var 2) [.call "_law_draw" [.var 0, .blt .len [.var 2]]]) (.nm 4) .rng1 (.ix (.var 1) (.c (.int 0))) (.c .non) [] [4]),
  .asg (.nm 5) (.lst []),
  .for_ (.tp [.nm 6, .nm 7, .nm 8]) .val (.ix (.var 1) (.c (.int 1))) (.c .non) [
    .expr (.meth .append (.var 5) [.tup [.blt .min [.ix (.var 3) (.var 6), .ix (.var 3) (.var 7)], .blt .max [.ix (.var 3) (.var 6), .ix (.var 3) (.var 7)], .var 8]])],
  .ret (.tup [.ix (.var 1) (.c (.int 0)), .blt .tuple [.var 5]])]
def p_x_called : FP := ⟨2, 9, b_x_called, [.io, .sh, .ow, .sh, .sh, .ow, .sh, .sh, .sh], [.io, .pl], false⟩
/-- 0 _law_script, 1 _law_feed_here, 2 _law_k, 3 _law_web_here, 4 _law_one, 5 _law_kept, 6 _law_due, 7 _law_wide_here -/
def b_law : List MS := [
  .asg (.nm 1) (.call "_law_feed" [.var 0]),
  .for_ (.nm 2) .rng1 (.c (.int 6)) (.c .non) [
    .asg (.nm 3) (.call "_law_web" [.var 1, .c (.int 9), .ix (.lst [.c (.int 16), .c (.int 4), .c (.int 6)]) (.bin .Mod (.var 2) (.c (.int 3))), .c (.bl true)]),
    .for_ (.nm 4) .val (.tup [.var 3, .call "_law_called" [.var 1, .var 3], .tup [.ix (.var 3) (.c (.int 0)), .tup []]]) (.c .non) [
      .asg (.nm 5) (.blt .repr [.var 4]),
      .asg (.nm 6) (.blt .repr [.call "_law_parts" [.var 4]]),
      .ite (.or_ (.cmp .NotEq (.blt .repr [.call "parts_of" [.var 4]]) (.var 6)) (.or_ (.cmp .NotEq (.blt .repr [.call "parts_of" [.var 4]]) (.var 6)) (.cmp .NotEq (.blt .repr [.var 4]) (.var 5)))) [
        .ret (.c (.bl false))] []]],
  .ite (.cmp .Gt (.call "_law_draw" [.var 1, .c (.int 6)]) (.c (.int 0))) [
    .ret (.c (.bl true))] [],
  .asg (.nm 7) (.call "_law_wide" [.var 1, .c (.int 64)]),
  .ret (.cmp .Eq (.blt .repr [.call "parts_of" [.var 7]]) (.blt .repr [.call "_law_parts" [.var 7]]))]
def p_law : FP := ⟨1, 8, b_law, [.sh, .ow, .sh, .sh, .sh, .sh, .sh, .sh], [.pl], false⟩
def OkW (w : PV) : Prop := ∃ n ts, w = webV n ts ∧ n ≤ 60 ∧ ts.length ≤ 200 ∧ ∀ t ∈ ts, okA true n t
structure Called (X : CQ) : Prop where
  sig : X.sig "_law_called" = some ([.io, .pl], false)
  call : ∀ T v n ts, Fd T v → T + 1000 < line → n ≤ 60 → ts.length ≤ 200 → (∀ t ∈ ts, okA true n t) → ∃ (us : List AT) (v' : PV), X.call "_law_called" [v, webV n ts] = .ok (.val (webV n us)) [v', webV n ts] ∧ us.length = ts.length ∧ (∀ t ∈ us, okA true n t) ∧ Fd (T + 100) v'
def ccl : List Cls := [.io, .sh, .ow, .sh, .sh, .ow, .sh, .sh, .sh]
theorem called_ok {Γ : Str → Option FP} {gl : Str → Option MV} {W d : Nat} {c : Nat → Cls} (g : Γ "_law_called" = some p_x_called) (D : ∀ c, Draw ⟨runP Γ gl W d, sigP Γ, c, gl, W⟩) : Called ⟨runP Γ gl W (d + 1), sigP Γ, c, gl, W⟩ := by
  refine ⟨sig_eq g, fun T v n ts hv hT hn hl ok => ?_⟩
  dsimp only
  rw [run_eq g rfl rfl]
  generalize hX : (⟨runP Γ gl W d, sigP Γ, clOf [.io, .sh, .ow, .sh, .sh, .ow, .sh, .sh, .sh], gl, W⟩ : CQ) = X
  have hx : X.cl = clOf ccl := by rw [← hX]; rfl
  have D : Draw X := by rw [← hX]; exact D _
  have lw : isLk (webV n ts) = false := rfl
  have i0 : ixP (webV n ts) (.int 0) = some (.int (n : Int)) := rfl
  have i1 : ixP (webV n ts) (.int 1) = some (.tup (ts.map tieV)) := rfl
  have fin : Evo (finQ [.io, .pl] false [v, webV n ts] (evTs' X b_x_called [some v, some (webV n ts), none, none, none, none, none, none, none])) fun o ios => ∃ (us : List AT) (v' : PV), o = .val (webV n us) ∧ ios = [v', webV n ts] ∧ us.length = ts.length ∧ (∀ t ∈ us, okA true n t) ∧ Fd (T + 100) v' := by
    refine finQ_ev ?_
    simp only [b_x_called]
    simp -dsimp only [w_int, w_bl, w_str, w_non, w_var, w_glb, w_tup, w_lst, w_bin, w_neg, w_not, w_cmp, w_chain, w_and, w_or, w_ife, w_ix, w_sl, w_slL, w_slH, w_slB, w_rev, w_call, w_blt, w_meth, w_isi, w_dsp, w_rngL, w_rngT, lcSrc, w_lc, w_es0, w_es1, w_ts0, w_ts1, w_asg, subO, w_asgSub, w_expr, w_ret, w_retN, w_ite, w_for, w_whl, w_pass, w_brk, w_cont, w_ss0, w_ss1, th_nx, th_ret, th_brk, th_cont, ob_some, br_t, br_f, qb_ok, qb_assoc, rd_s, rd_non, rd_bl, rd_int, rd_str, rd_tup, rd_lst, rd_fro, rd_dct, lookO, looks, on1, on2, intO, force, forces, forceQ, asgF, asgO, asgP, asgPs, Opd.v, ld_non, ld_bl, ld_int, ld_str, ld_tup, ld_lst, ld_fro, ld_dct, lk_non, lk_bl, lk_int, lk_str, lk_tup, lk_lst, lk_fro, lk_dct, lk_lck, clOf, finQ_ret, finQ_nx, exitQ, outsP, callP, argsP, backP,  List.getElem?_cons_zero, List.getElem?_cons_succ, List.set_cons_zero, List.set_cons_succ, Option.getD_some, Option.map_some, Option.bind_some, reduceCtorEq, ↓reduceIte, if_true, if_false, noRef, noRefs, emb, embs, tr_bl, tr_int, tr_non, tr_tup, tr_lst, bp_add, bp_sub, cp_eqI, cp_neI, cp_eqS, cp_neS, cp_lt, cp_le, cp_gt, cp_ge, cp_in, cp_notin, cp_isN, cp_isnN, isNon, mx_int, mn_int, ln_tup, ln_lst, ln_fro, tu_lst, tu_tup, li_tup, li_lst, in_bl, in_int, ix_tup', ix_lst', at_0, at_1, at_2, at_3, canP, Bool.not_true, Bool.not_false, Bool.false_eq_true, Bool.true_and, Bool.and_true, Bool.and_self, decide_true, decide_false, methO, Me.reads, kd_str', kd_tup', kd_lst', kd_dct', or_true, true_or, or_false, false_or, and_true, true_and, and_self, ne_eq, not_false_eq_true, not_true_eq_false, eq_self,  srcP, lockO, unlockO, restP, Option.join_some, lc_some, lc_t, lc_f, fs_some, wipeP, List.length_cons, List.length_nil, Nat.reduceAdd, List.map_cons, List.map_nil, List.cons_append, List.nil_append, List.replicate, Nat.reduceSub, beq_self_eq_true, lcOk, MT.slots, MT.slotss, List.all_cons, List.all_nil, List.contains_cons, List.contains_nil, Bool.true_or, Bool.or_true, Bool.or_false, Bool.false_or, Nat.reduceBEq, rng_len, List.length_map, it_tup, it_lst, is_tup, is_int, is_bl, is_lst, is_str, is_non, rv_tup, hx, ccl, rd_any lw, i0, i1, rngP_ok (show n ≤ 1000000 by omega), it_rng' (show n ≤ 1000000 by omega), lm_le (show n ≤ 1000000 by omega)]
    rw [rng_nats]
    refine .bnd (compD_inv (fun i zs σ => ∃ (ks left : List Nat) (u : PV), zs = natsP ks ∧ σ = [some u, some (webV n ts), some (.lst (natsP left)), none, none, none, none, none, none] ∧ Fd (T + i) u ∧ i ≤ n ∧ (ks ++ left).Perm (List.range n) ∧ left.length + i = n) ⟨[], List.range n, v, rfl, rfl, hv, by omega, by simp, by simp⟩ ?_ ?_)
    · rintro i x zs σ hi ⟨ks, left, u, rfl, rfl, hu, hin, hp, hl⟩
      have hi2 : i < n := by have := (List.getElem?_eq_some_iff.mp hi).1; simpa [natsP] using this
      have hxi : x = .int (i : Int) := by
        have := (List.getElem?_eq_some_iff.mp hi).2
        simp [natsP] at this
        exact this.symm
      subst hxi
      obtain ⟨r, w, e, r0, r1, hw⟩ := D.call _ u left.length hu (by omega) (by omega) (by omega)
      obtain ⟨k, rfl⟩ : ∃ k : Nat, r = (k : Int) := ⟨r.toNat, by omega⟩
      have hk : k < left.length := by omega
      have hll : (natsP left).length = left.length := by simp [natsP]
      have pa := pop_at (xs := natsP left) (k := k) (by rw [hll]; exact hk) (by omega)
      have ge : (natsP left)[k]'(by rw [hll]; exact hk) = .int (left[k] : Nat) := by simp [natsP]
      have ee : (natsP left).eraseIdx k = natsP (left.eraseIdx k) := by simp only [natsP]; exact erase_map _ _ _
      rw [ge, ee] at pa
      simp -dsimp only [w_int, w_bl, w_str, w_non, w_var, w_glb, w_tup, w_lst, w_bin, w_neg, w_not, w_cmp, w_chain, w_and, w_or, w_ife, w_ix, w_sl, w_slL, w_slH, w_slB, w_rev, w_call, w_blt, w_meth, w_isi, w_dsp, w_rngL, w_rngT, lcSrc, w_lc, w_es0, w_es1, w_ts0, w_ts1, w_asg, subO, w_asgSub, w_expr, w_ret, w_retN, w_ite, w_for, w_whl, w_pass, w_brk, w_cont, w_ss0, w_ss1, th_nx, th_ret, th_brk, th_cont, ob_some, br_t, br_f, qb_ok, qb_assoc, rd_s, rd_non, rd_bl, rd_int, rd_str, rd_tup, rd_lst, rd_fro, rd_dct, lookO, looks, on1, on2, intO, force, forces, forceQ, asgF, asgO, asgP, asgPs, Opd.v, ld_non, ld_bl, ld_int, ld_str, ld_tup, ld_lst, ld_fro, ld_dct, lk_non, lk_bl, lk_int, lk_str, lk_tup, lk_lst, lk_fro, lk_dct, lk_lck, clOf, finQ_ret, finQ_nx, exitQ, outsP, callP, argsP, backP,  List.getElem?_cons_zero, List.getElem?_cons_succ, List.set_cons_zero, List.set_cons_succ, Option.getD_some, Option.map_some, Option.bind_some, reduceCtorEq, ↓reduceIte, if_true, if_false, noRef, noRefs, emb, embs, tr_bl, tr_int, tr_non, tr_tup, tr_lst, bp_add, bp_sub, cp_eqI, cp_neI, cp_eqS, cp_neS, cp_lt, cp_le, cp_gt, cp_ge, cp_in, cp_notin, cp_isN, cp_isnN, isNon, mx_int, mn_int, ln_tup, ln_lst, ln_fro, tu_lst, tu_tup, li_tup, li_lst, in_bl, in_int, ix_tup', ix_lst', at_0, at_1, at_2, at_3, canP, Bool.not_true, Bool.not_false, Bool.false_eq_true, Bool.true_and, Bool.and_true, Bool.and_self, decide_true, decide_false, methO, Me.reads, kd_str', kd_tup', kd_lst', kd_dct', or_true, true_or, or_false, false_or, and_true, true_and, and_self, ne_eq, not_false_eq_true, not_true_eq_false, eq_self,  srcP, lockO, unlockO, restP, Option.join_some, lc_some, lc_t, lc_f, fs_some, wipeP, List.length_cons, List.length_nil, Nat.reduceAdd, List.map_cons, List.map_nil, List.cons_append, List.nil_append, List.replicate, Nat.reduceSub, beq_self_eq_true, lcOk, MT.slots, MT.slotss, List.all_cons, List.all_nil, List.contains_cons, List.contains_nil, Bool.true_or, Bool.or_true, Bool.or_false, Bool.false_or, Nat.reduceBEq, rng_len, List.length_map, it_tup, it_lst, is_tup, is_int, is_bl, is_lst, is_str, is_non, rv_tup, hx, ccl, D.sig, rd_any hu.lk, rd_any hw.lk, hll, e, pa]
      refine .ok ⟨ks ++ [left[k]], left.eraseIdx k, w, by simp [natsP], rfl, hw.mono (by omega), by omega, ?_, by rw [List.length_eraseIdx_of_lt hk]; omega⟩
      refine List.Perm.trans ?_ hp
      rw [List.append_assoc]
      exact List.Perm.append_left _ (erase_perm hk)
    · rintro zs σ ⟨ks, left, u, rfl, rfl, hu, hin, hp, hl⟩
      have ln : (natsP (List.range n)).length = n := by simp [natsP]
      rw [ln] at hl hu
      obtain rfl : left = [] := List.length_eq_zero_iff.mp (by omega)
      rw [List.append_nil] at hp
      have kl : ks.length = n := by simpa using hp.length_eq
      have hnd : ks.Nodup := hp.nodup_iff.mpr List.nodup_range
      have hlt : ∀ k ∈ ks, k < n := fun k hk => by simpa using hp.mem_iff.mp hk
      have ka : ∀ a (h : a < ks.length), atI (natsP ks) (a : Int) = some (.int ((ks[a] : Nat) : Int)) := fun a h => by
        rw [at_nat, natsP, List.getElem?_map, List.getElem?_eq_getElem h]; rfl
      simp -dsimp only [w_int, w_bl, w_str, w_non, w_var, w_glb, w_tup, w_lst, w_bin, w_neg, w_not, w_cmp, w_chain, w_and, w_or, w_ife, w_ix, w_sl, w_slL, w_slH, w_slB, w_rev, w_call, w_blt, w_meth, w_isi, w_dsp, w_rngL, w_rngT, lcSrc, w_lc, w_es0, w_es1, w_ts0, w_ts1, w_asg, subO, w_asgSub, w_expr, w_ret, w_retN, w_ite, w_for, w_whl, w_pass, w_brk, w_cont, w_ss0, w_ss1, th_nx, th_ret, th_brk, th_cont, ob_some, br_t, br_f, qb_ok, qb_assoc, rd_s, rd_non, rd_bl, rd_int, rd_str, rd_tup, rd_lst, rd_fro, rd_dct, lookO, looks, on1, on2, intO, force, forces, forceQ, asgF, asgO, asgP, asgPs, Opd.v, ld_non, ld_bl, ld_int, ld_str, ld_tup, ld_lst, ld_fro, ld_dct, lk_non, lk_bl, lk_int, lk_str, lk_tup, lk_lst, lk_fro, lk_dct, lk_lck, clOf, finQ_ret, finQ_nx, exitQ, outsP, callP, argsP, backP,  List.getElem?_cons_zero, List.getElem?_cons_succ, List.set_cons_zero, List.set_cons_succ, Option.getD_some, Option.map_some, Option.bind_some, reduceCtorEq, ↓reduceIte, if_true, if_false, noRef, noRefs, emb, embs, tr_bl, tr_int, tr_non, tr_tup, tr_lst, bp_add, bp_sub, cp_eqI, cp_neI, cp_eqS, cp_neS, cp_lt, cp_le, cp_gt, cp_ge, cp_in, cp_notin, cp_isN, cp_isnN, isNon, mx_int, mn_int, ln_tup, ln_lst, ln_fro, tu_lst, tu_tup, li_tup, li_lst, in_bl, in_int, ix_tup', ix_lst', at_0, at_1, at_2, at_3, canP, Bool.not_true, Bool.not_false, Bool.false_eq_true, Bool.true_and, Bool.and_true, Bool.and_self, decide_true, decide_false, methO, Me.reads, kd_str', kd_tup', kd_lst', kd_dct', or_true, true_or, or_false, false_or, and_true, true_and, and_self, ne_eq, not_false_eq_true, not_true_eq_false, eq_self,  srcP, lockO, unlockO, restP, Option.join_some, lc_some, lc_t, lc_f, fs_some, wipeP, List.length_cons, List.length_nil, Nat.reduceAdd, List.map_cons, List.map_nil, List.cons_append, List.nil_append, List.replicate, Nat.reduceSub, beq_self_eq_true, lcOk, MT.slots, MT.slotss, List.all_cons, List.all_nil, List.contains_cons, List.contains_nil, Bool.true_or, Bool.or_true, Bool.or_false, Bool.false_or, Nat.reduceBEq, rng_len, List.length_map, it_tup, it_lst, is_tup, is_int, is_bl, is_lst, is_str, is_non, rv_tup, hx, ccl, rd_any lw, i0, i1]
      refine .bnd ((forD_inv (fun i σ => ∃ (us : List AT) (x6 x7 x8 : Option PV), σ = [some u, some (webV n ts), some (.lst (natsP [])), some (.lst (natsP ks)), none, some (.lst (us.map tieV)), x6, x7, x8] ∧ us.length = i ∧ i ≤ ts.length ∧ ∀ t ∈ us, okA true n t) ⟨[], _, _, _, rfl, rfl, by omega, by simp⟩ ?_).imp ?_)
      · rintro i x σ hi ⟨us, x6, x7, x8, rfl, hul, hil, oku⟩
        rw [List.getElem?_map] at hi
        obtain ⟨t, ht, rfl⟩ := Option.map_eq_some_iff.mp hi
        obtain ⟨hi2, ht2⟩ := List.getElem?_eq_some_iff.mp ht
        obtain ⟨o1, o2, o3⟩ := ok t (by rw [← ht2]; exact List.getElem_mem _)
        have a1 := ka t.1 (by omega)
        have a2 := ka t.2.1 (by omega)
        have l1 := hlt _ (List.getElem_mem (show t.1 < ks.length by omega))
        have l2 := hlt _ (List.getElem_mem (show t.2.1 < ks.length by omega))
        have ne : ks[t.1]'(by omega) ≠ ks[t.2.1]'(by omega) := fun e => by have := nd_ne hnd _ _ e; omega
        generalize ks[t.1]'(by omega) = p at a1 l1 ne
        generalize ks[t.2.1]'(by omega) = q at a2 l2 ne
        have mn : (if (q : Int) < (p : Int) then (q : Int) else (p : Int)) = ((min p q : Nat) : Int) := by split <;> omega
        have mx : (if (p : Int) < (q : Int) then (q : Int) else (p : Int)) = ((max p q : Nat) : Int) := by split <;> omega
        have al : (us.map tieV).length < 1000000 := by simp; omega
        have lt : tieV t = .tup [.int t.1, .int t.2.1, .int t.2.2] := rfl
        rw [lt]
        simp -dsimp only [asgP, asgPs, clOf, fs_some, lc_some, List.getElem?_cons_zero, List.getElem?_cons_succ, List.set_cons_zero, List.set_cons_succ, Option.getD_some, Option.bind_some, Option.map_some, reduceCtorEq, ↓reduceIte, List.length_cons, List.length_nil, ld_int, ld_tup, ld_bl, ld_str, ld_non, isLD, hx, ccl]
        simp -dsimp only [w_int, w_bl, w_str, w_non, w_var, w_glb, w_tup, w_lst, w_bin, w_neg, w_not, w_cmp, w_chain, w_and, w_or, w_ife, w_ix, w_sl, w_slL, w_slH, w_slB, w_rev, w_call, w_blt, w_meth, w_isi, w_dsp, w_rngL, w_rngT, lcSrc, w_lc, w_es0, w_es1, w_ts0, w_ts1, w_asg, subO, w_asgSub, w_expr, w_ret, w_retN, w_ite, w_for, w_whl, w_pass, w_brk, w_cont, w_ss0, w_ss1, th_nx, th_ret, th_brk, th_cont, ob_some, br_t, br_f, qb_ok, qb_assoc, rd_s, rd_non, rd_bl, rd_int, rd_str, rd_tup, rd_lst, rd_fro, rd_dct, lookO, looks, on1, on2, intO, force, forces, forceQ, asgF, asgO, asgP, asgPs, Opd.v, ld_non, ld_bl, ld_int, ld_str, ld_tup, ld_lst, ld_fro, ld_dct, lk_non, lk_bl, lk_int, lk_str, lk_tup, lk_lst, lk_fro, lk_dct, lk_lck, clOf, finQ_ret, finQ_nx, exitQ, outsP, callP, argsP, backP,  List.getElem?_cons_zero, List.getElem?_cons_succ, List.set_cons_zero, List.set_cons_succ, Option.getD_some, Option.map_some, Option.bind_some, reduceCtorEq, ↓reduceIte, if_true, if_false, noRef, noRefs, emb, embs, tr_bl, tr_int, tr_non, tr_tup, tr_lst, bp_add, bp_sub, cp_eqI, cp_neI, cp_eqS, cp_neS, cp_lt, cp_le, cp_gt, cp_ge, cp_in, cp_notin, cp_isN, cp_isnN, isNon, mx_int, mn_int, ln_tup, ln_lst, ln_fro, tu_lst, tu_tup, li_tup, li_lst, in_bl, in_int, ix_tup', ix_lst', at_0, at_1, at_2, at_3, canP, Bool.not_true, Bool.not_false, Bool.false_eq_true, Bool.true_and, Bool.and_true, Bool.and_self, decide_true, decide_false, methO, Me.reads, kd_str', kd_tup', kd_lst', kd_dct', or_true, true_or, or_false, false_or, and_true, true_and, and_self, ne_eq, not_false_eq_true, not_true_eq_false, eq_self,  srcP, lockO, unlockO, restP, Option.join_some, lc_some, lc_t, lc_f, fs_some, wipeP, List.length_cons, List.length_nil, Nat.reduceAdd, List.map_cons, List.map_nil, List.cons_append, List.nil_append, List.replicate, Nat.reduceSub, beq_self_eq_true, lcOk, MT.slots, MT.slotss, List.all_cons, List.all_nil, List.contains_cons, List.contains_nil, Bool.true_or, Bool.or_true, Bool.or_false, Bool.false_or, Nat.reduceBEq, rng_len, List.length_map, it_tup, it_lst, is_tup, is_int, is_bl, is_lst, is_str, is_non, rv_tup, hx, ccl, a1, a2, mn, mx, gt_iff_lt, app_at al]
        refine .ok ⟨.inl rfl, us ++ [(min p q, max p q, t.2.2)], _, _, _, by simp [tieV]; exact ⟨rfl, rfl, rfl⟩, by simp [hul], by omega, fun t' ht' => ?_⟩
        rcases List.mem_append.mp ht' with z | z
        · exact oku t' z
        · simp only [List.mem_singleton] at z
          subst z
          exact ⟨by dsimp only; omega, by dsimp only; omega, o3⟩
      · rintro fl σ ⟨rfl, us, x6, x7, x8, rfl, hul, hil, oku⟩
        rw [List.length_map] at hul
        simp -dsimp only [w_int, w_bl, w_str, w_non, w_var, w_glb, w_tup, w_lst, w_bin, w_neg, w_not, w_cmp, w_chain, w_and, w_or, w_ife, w_ix, w_sl, w_slL, w_slH, w_slB, w_rev, w_call, w_blt, w_meth, w_isi, w_dsp, w_rngL, w_rngT, lcSrc, w_lc, w_es0, w_es1, w_ts0, w_ts1, w_asg, subO, w_asgSub, w_expr, w_ret, w_retN, w_ite, w_for, w_whl, w_pass, w_brk, w_cont, w_ss0, w_ss1, th_nx, th_ret, th_brk, th_cont, ob_some, br_t, br_f, qb_ok, qb_assoc, rd_s, rd_non, rd_bl, rd_int, rd_str, rd_tup, rd_lst, rd_fro, rd_dct, lookO, looks, on1, on2, intO, force, forces, forceQ, asgF, asgO, asgP, asgPs, Opd.v, ld_non, ld_bl, ld_int, ld_str, ld_tup, ld_lst, ld_fro, ld_dct, lk_non, lk_bl, lk_int, lk_str, lk_tup, lk_lst, lk_fro, lk_dct, lk_lck, clOf, finQ_ret, finQ_nx, exitQ, outsP, callP, argsP, backP,  List.getElem?_cons_zero, List.getElem?_cons_succ, List.set_cons_zero, List.set_cons_succ, Option.getD_some, Option.map_some, Option.bind_some, reduceCtorEq, ↓reduceIte, if_true, if_false, noRef, noRefs, emb, embs, tr_bl, tr_int, tr_non, tr_tup, tr_lst, bp_add, bp_sub, cp_eqI, cp_neI, cp_eqS, cp_neS, cp_lt, cp_le, cp_gt, cp_ge, cp_in, cp_notin, cp_isN, cp_isnN, isNon, mx_int, mn_int, ln_tup, ln_lst, ln_fro, tu_lst, tu_tup, li_tup, li_lst, in_bl, in_int, ix_tup', ix_lst', at_0, at_1, at_2, at_3, canP, Bool.not_true, Bool.not_false, Bool.false_eq_true, Bool.true_and, Bool.and_true, Bool.and_self, decide_true, decide_false, methO, Me.reads, kd_str', kd_tup', kd_lst', kd_dct', or_true, true_or, or_false, false_or, and_true, true_and, and_self, ne_eq, not_false_eq_true, not_true_eq_false, eq_self,  srcP, lockO, unlockO, restP, Option.join_some, lc_some, lc_t, lc_f, fs_some, wipeP, List.length_cons, List.length_nil, Nat.reduceAdd, List.map_cons, List.map_nil, List.cons_append, List.nil_append, List.replicate, Nat.reduceSub, beq_self_eq_true, lcOk, MT.slots, MT.slotss, List.all_cons, List.all_nil, List.contains_cons, List.contains_nil, Bool.true_or, Bool.or_true, Bool.or_false, Bool.false_or, Nat.reduceBEq, rng_len, List.length_map, it_tup, it_lst, is_tup, is_int, is_bl, is_lst, is_str, is_non, rv_tup, hx, ccl, rd_any lw, i0]
        refine .ok (.ret ?_)
        simp -dsimp only [w_int, w_bl, w_str, w_non, w_var, w_glb, w_tup, w_lst, w_bin, w_neg, w_not, w_cmp, w_chain, w_and, w_or, w_ife, w_ix, w_sl, w_slL, w_slH, w_slB, w_rev, w_call, w_blt, w_meth, w_isi, w_dsp, w_rngL, w_rngT, lcSrc, w_lc, w_es0, w_es1, w_ts0, w_ts1, w_asg, subO, w_asgSub, w_expr, w_ret, w_retN, w_ite, w_for, w_whl, w_pass, w_brk, w_cont, w_ss0, w_ss1, th_nx, th_ret, th_brk, th_cont, ob_some, br_t, br_f, qb_ok, qb_assoc, rd_s, rd_non, rd_bl, rd_int, rd_str, rd_tup, rd_lst, rd_fro, rd_dct, lookO, looks, on1, on2, intO, force, forces, forceQ, asgF, asgO, asgP, asgPs, Opd.v, ld_non, ld_bl, ld_int, ld_str, ld_tup, ld_lst, ld_fro, ld_dct, lk_non, lk_bl, lk_int, lk_str, lk_tup, lk_lst, lk_fro, lk_dct, lk_lck, clOf, finQ_ret, finQ_nx, exitQ, outsP, callP, argsP, backP,  List.getElem?_cons_zero, List.getElem?_cons_succ, List.set_cons_zero, List.set_cons_succ, Option.getD_some, Option.map_some, Option.bind_some, reduceCtorEq, ↓reduceIte, if_true, if_false, noRef, noRefs, emb, embs, tr_bl, tr_int, tr_non, tr_tup, tr_lst, bp_add, bp_sub, cp_eqI, cp_neI, cp_eqS, cp_neS, cp_lt, cp_le, cp_gt, cp_ge, cp_in, cp_notin, cp_isN, cp_isnN, isNon, mx_int, mn_int, ln_tup, ln_lst, ln_fro, tu_lst, tu_tup, li_tup, li_lst, in_bl, in_int, ix_tup', ix_lst', at_0, at_1, at_2, at_3, canP, Bool.not_true, Bool.not_false, Bool.false_eq_true, Bool.true_and, Bool.and_true, Bool.and_self, decide_true, decide_false, methO, Me.reads, kd_str', kd_tup', kd_lst', kd_dct', or_true, true_or, or_false, false_or, and_true, true_and, and_self, ne_eq, not_false_eq_true, not_true_eq_false, eq_self,  srcP, lockO, unlockO, restP, Option.join_some, lc_some, lc_t, lc_f, fs_some, wipeP, List.length_cons, List.length_nil, Nat.reduceAdd, List.map_cons, List.map_nil, List.cons_append, List.nil_append, List.replicate, Nat.reduceSub, beq_self_eq_true, lcOk, MT.slots, MT.slotss, List.all_cons, List.all_nil, List.contains_cons, List.contains_nil, Bool.true_or, Bool.or_true, Bool.or_false, Bool.false_or, Nat.reduceBEq, rng_len, List.length_map, it_tup, it_lst, is_tup, is_int, is_bl, is_lst, is_str, is_non, rv_tup, hu.lk]
        exact .ok ⟨us, u, rfl, rfl, hul, oku, hu.mono (by omega)⟩
  obtain ⟨o, ios, e, us, v', rfl, rfl, q⟩ := fin
  exact ⟨us, v', e, q⟩
theorem parts_gd {n : Nat} {ts : List AT} (hn : n ≤ 60) : Gd (.tup (partsUp n ts n)) ∧ zP (.tup (partsUp n ts n)) ≤ 1000000 := by
  have each : ∀ v ∈ partsUp n ts n, gP v 4 = true ∧ hP v ≤ 1 ∧ zP v ≤ 3000 := fun v hv => by
    obtain ⟨p, hp, rfl⟩ := List.mem_map.mp hv
    have f1 := List.length_filter_le (cnB ts p) (List.range n)
    rw [List.length_range] at f1
    obtain ⟨a1, a2, a3⟩ := g_nats (S := partS n ts p) (fun s h => by have := (mem_part.mp h).1; omega) (by unfold partS; omega)
    have z := zPs_le (ys := natsP (partS n ts p)) (k := 46) fun v hv => by obtain ⟨s, _, rfl⟩ := List.mem_map.mp hv; simp [zP]
    have ll : (natsP (partS n ts p)).length ≤ n := by simp only [natsP, List.length_map]; exact f1
    refine ⟨by simp only [gP, a1], by simp only [hP, a2]; omega, ?_⟩
    simp only [zP]
    omega
  have l := partsUp_len (n := n) (i := n) (ts := ts)
  have g : gPs (partsUp n ts n) 4 = true := gPs_of fun v hv => (each v hv).1
  have h : hPs (partsUp n ts n) ≤ 1 := hPs_of fun v hv => (each v hv).2.1
  have z := zPs_le (ys := partsUp n ts n) (k := 3000) fun v hv => (each v hv).2.2
  exact ⟨⟨by simp only [gP, g], by simp only [hP]; omega⟩, by simp only [zP]; omega⟩
def lcl : List Cls := [.sh, .ow, .sh, .sh, .sh, .sh, .sh, .sh]
def b_look : List MS := [
      .asg (.nm 5) (.blt .repr [.var 4]),
      .asg (.nm 6) (.blt .repr [.call "_law_parts" [.var 4]]),
      .ite (.or_ (.cmp .NotEq (.blt .repr [.call "parts_of" [.var 4]]) (.var 6)) (.or_ (.cmp .NotEq (.blt .repr [.call "parts_of" [.var 4]]) (.var 6)) (.cmp .NotEq (.blt .repr [.var 4]) (.var 5)))) [
        .ret (.c (.bl false))] []]
theorem look_ok {X : CQ} (hx : X.cl = clOf lcl) (A : Parts X "parts_of") (B : Parts X "_law_parts") {s0 u x2 x3 x5 x6 x7 : Option PV} {w : PV} (hw : OkW w) :
    Evq (evTs' X b_look [s0, u, x2, x3, some w, x5, x6, x7]) fun fl σ => fl = .nx ∧ ∃ x5 x6, σ = [s0, u, x2, x3, some w, x5, x6, x7] := by
  obtain ⟨n, ts, rfl, hn, hl, ok⟩ := hw
  obtain ⟨w1, w2, w3⟩ := web_g (by omega) hl ok
  have rw1 := repr_g (v := webV n ts) ⟨gP_up w1 (by omega), by omega⟩ (by omega)
  obtain ⟨g1, g2⟩ := parts_gd (ts := ts) hn
  have rp := repr_g g1 g2
  have e1 := A.call n ts true (by omega) ok
  have e2 := B.call n ts true (by omega) ok
  have lw : isLk (webV n ts) = false := rfl
  simp only [b_look]
  simp -dsimp only [w_int, w_bl, w_str, w_non, w_var, w_glb, w_tup, w_lst, w_bin, w_neg, w_not, w_cmp, w_chain, w_and, w_or, w_ife, w_ix, w_sl, w_slL, w_slH, w_slB, w_rev, w_call, w_blt, w_meth, w_isi, w_dsp, w_rngL, w_rngT, lcSrc, w_lc, w_es0, w_es1, w_ts0, w_ts1, w_asg, subO, w_asgSub, w_expr, w_ret, w_retN, w_ite, w_for, w_whl, w_pass, w_brk, w_cont, w_ss0, w_ss1, th_nx, th_ret, th_brk, th_cont, ob_some, br_t, br_f, qb_ok, qb_assoc, rd_s, rd_non, rd_bl, rd_int, rd_str, rd_tup, rd_lst, rd_fro, rd_dct, lookO, looks, on1, on2, intO, force, forces, forceQ, asgF, asgO, asgP, asgPs, Opd.v, ld_non, ld_bl, ld_int, ld_str, ld_tup, ld_lst, ld_fro, ld_dct, lk_non, lk_bl, lk_int, lk_str, lk_tup, lk_lst, lk_fro, lk_dct, lk_lck, clOf, finQ_ret, finQ_nx, exitQ, outsP, callP, argsP, backP,  List.getElem?_cons_zero, List.getElem?_cons_succ, List.set_cons_zero, List.set_cons_succ, Option.getD_some, Option.map_some, Option.bind_some, reduceCtorEq, ↓reduceIte, if_true, if_false, noRef, noRefs, emb, embs, tr_bl, tr_int, tr_non, tr_tup, tr_lst, bp_add, bp_sub, cp_eqI, cp_neI, cp_eqS, cp_neS, cp_lt, cp_le, cp_gt, cp_ge, cp_in, cp_notin, cp_isN, cp_isnN, isNon, mx_int, mn_int, ln_tup, ln_lst, ln_fro, tu_lst, tu_tup, li_tup, li_lst, in_bl, in_int, ix_tup', ix_lst', at_0, at_1, at_2, at_3, canP, Bool.not_true, Bool.not_false, Bool.false_eq_true, Bool.true_and, Bool.and_true, Bool.and_self, decide_true, decide_false, methO, Me.reads, kd_str', kd_tup', kd_lst', kd_dct', or_true, true_or, or_false, false_or, and_true, true_and, and_self, ne_eq, not_false_eq_true, not_true_eq_false, eq_self,  srcP, lockO, unlockO, restP, Option.join_some, lc_some, lc_t, lc_f, fs_some, wipeP, List.length_cons, List.length_nil, Nat.reduceAdd, List.map_cons, List.map_nil, List.cons_append, List.nil_append, List.replicate, Nat.reduceSub, beq_self_eq_true, lcOk, MT.slots, MT.slotss, List.all_cons, List.all_nil, List.contains_cons, List.contains_nil, Bool.true_or, Bool.or_true, Bool.or_false, Bool.false_or, Nat.reduceBEq, rng_len, List.length_map, it_tup, it_lst, is_tup, is_int, is_bl, is_lst, is_str, is_non, rv_tup, hx, lcl, rd_any lw, A.sig, B.sig, e1, e2, rw1, rp]
  exact .ok ⟨rfl, _, _, rfl⟩
theorem law_ok {Γ : Str → Option FP} {gl : Str → Option MV} {W d : Nat} (g : Γ "law" = some p_law) (ns : List Int)
    (F : ∀ c, Feed ⟨runP Γ gl W d, sigP Γ, c, gl, W⟩) (D : ∀ c, Draw ⟨runP Γ gl W d, sigP Γ, c, gl, W⟩) (O : ∀ c, WebS ⟨runP Γ gl W d, sigP Γ, c, gl, W⟩) (Wd : ∀ c, Wide ⟨runP Γ gl W d, sigP Γ, c, gl, W⟩)
    (C : ∀ c, Called ⟨runP Γ gl W d, sigP Γ, c, gl, W⟩) (A : ∀ c, Parts ⟨runP Γ gl W d, sigP Γ, c, gl, W⟩ "parts_of") (B : ∀ c, Parts ⟨runP Γ gl W d, sigP Γ, c, gl, W⟩ "_law_parts") :
    ∃ o ios, runP Γ gl W (d + 1) "law" [.fro (ns.map .int)] = .ok o ios ∧ o.v = .bl true := by
  rw [run_eq g rfl rfl]
  generalize hX : (⟨runP Γ gl W d, sigP Γ, clOf [.sh, .ow, .sh, .sh, .sh, .sh, .sh, .sh], gl, W⟩ : CQ) = X
  have hx : X.cl = clOf lcl := by rw [← hX]; rfl
  have F : Feed X := by rw [← hX]; exact F _
  have D : Draw X := by rw [← hX]; exact D _
  have O : WebS X := by rw [← hX]; exact O _
  have Wd : Wide X := by rw [← hX]; exact Wd _
  have C : Called X := by rw [← hX]; exact C _
  have A : Parts X "parts_of" := by rw [← hX]; exact A _
  have B : Parts X "_law_parts" := by rw [← hX]; exact B _
  suffices h : Evo (finQ [.pl] false [.fro (ns.map .int)] (evTs' X b_law [some (.fro (ns.map .int)), none, none, none, none, none, none, none])) fun o ios => o.v = .bl true by
    obtain ⟨o, ios, e, h⟩ := h
    exact ⟨o, ios, e, h⟩
  refine finQ_ev ?_
  obtain ⟨v, e0, hv⟩ := F.call ns
  have eb : b_law = [.asg (.nm 1) (.call "_law_feed" [.var 0]),
  .for_ (.nm 2) .rng1 (.c (.int 6)) (.c .non) [
    .asg (.nm 3) (.call "_law_web" [.var 1, .c (.int 9), .ix (.lst [.c (.int 16), .c (.int 4), .c (.int 6)]) (.bin .Mod (.var 2) (.c (.int 3))), .c (.bl true)]),
    .for_ (.nm 4) .val (.tup [.var 3, .call "_law_called" [.var 1, .var 3], .tup [.ix (.var 3) (.c (.int 0)), .tup []]]) (.c .non) b_look],
  .ite (.cmp .Gt (.call "_law_draw" [.var 1, .c (.int 6)]) (.c (.int 0))) [
    .ret (.c (.bl true))] [],
  .asg (.nm 7) (.call "_law_wide" [.var 1, .c (.int 64)]),
  .ret (.cmp .Eq (.blt .repr [.call "parts_of" [.var 7]]) (.blt .repr [.call "_law_parts" [.var 7]]))] := rfl
  rw [eb]
  simp -dsimp only [w_int, w_bl, w_str, w_non, w_var, w_glb, w_tup, w_lst, w_bin, w_neg, w_not, w_cmp, w_chain, w_and, w_or, w_ife, w_ix, w_sl, w_slL, w_slH, w_slB, w_rev, w_call, w_blt, w_meth, w_isi, w_dsp, w_rngL, w_rngT, lcSrc, w_lc, w_es0, w_es1, w_ts0, w_ts1, w_asg, subO, w_asgSub, w_expr, w_ret, w_retN, w_ite, w_for, w_whl, w_pass, w_brk, w_cont, w_ss0, w_ss1, th_nx, th_ret, th_brk, th_cont, ob_some, br_t, br_f, qb_ok, qb_assoc, rd_s, rd_non, rd_bl, rd_int, rd_str, rd_tup, rd_lst, rd_fro, rd_dct, lookO, looks, on1, on2, intO, force, forces, forceQ, asgF, asgO, asgP, asgPs, Opd.v, ld_non, ld_bl, ld_int, ld_str, ld_tup, ld_lst, ld_fro, ld_dct, lk_non, lk_bl, lk_int, lk_str, lk_tup, lk_lst, lk_fro, lk_dct, lk_lck, clOf, finQ_ret, finQ_nx, exitQ, outsP, callP, argsP, backP,  List.getElem?_cons_zero, List.getElem?_cons_succ, List.set_cons_zero, List.set_cons_succ, Option.getD_some, Option.map_some, Option.bind_some, reduceCtorEq, ↓reduceIte, if_true, if_false, noRef, noRefs, emb, embs, tr_bl, tr_int, tr_non, tr_tup, tr_lst, bp_add, bp_sub, cp_eqI, cp_neI, cp_eqS, cp_neS, cp_lt, cp_le, cp_gt, cp_ge, cp_in, cp_notin, cp_isN, cp_isnN, isNon, mx_int, mn_int, ln_tup, ln_lst, ln_fro, tu_lst, tu_tup, li_tup, li_lst, in_bl, in_int, ix_tup', ix_lst', at_0, at_1, at_2, at_3, canP, Bool.not_true, Bool.not_false, Bool.false_eq_true, Bool.true_and, Bool.and_true, Bool.and_self, decide_true, decide_false, methO, Me.reads, kd_str', kd_tup', kd_lst', kd_dct', or_true, true_or, or_false, false_or, and_true, true_and, and_self, ne_eq, not_false_eq_true, not_true_eq_false, eq_self,  srcP, lockO, unlockO, restP, Option.join_some, lc_some, lc_t, lc_f, fs_some, wipeP, List.length_cons, List.length_nil, Nat.reduceAdd, List.map_cons, List.map_nil, List.cons_append, List.nil_append, List.replicate, Nat.reduceSub, beq_self_eq_true, lcOk, MT.slots, MT.slotss, List.all_cons, List.all_nil, List.contains_cons, List.contains_nil, Bool.true_or, Bool.or_true, Bool.or_false, Bool.false_or, Nat.reduceBEq, rng_len, List.length_map, it_tup, it_lst, is_tup, is_int, is_bl, is_lst, is_str, is_non, rv_tup, hx, lcl, F.sig, e0, rd_any hv.lk, show itP .rng1 (.int 6) .non = some (rngIP 0 6) from it_rng' (n := 6) (by decide)]
  refine .bnd ((forD_inv (fun i σ => ∃ (u : PV) (x2 x3 x4 x5 x6 : Option PV), Fd (20000 * i) u ∧ σ = [some (.fro (ns.map .int)), some u, x2, x3, x4, x5, x6, none]) ⟨v, _, _, _, _, _, hv, rfl⟩ ?_).imp ?_)
  · rintro i x σ hi ⟨u, x2, x3, x4, x5, x6, hu, rfl⟩
    obtain ⟨rfl, hi2⟩ := rng_at hi
    obtain ⟨m, em, m1⟩ : ∃ m : Nat, atI [PV.int 16, PV.int 4, PV.int 6] ((0 + (i : Int)) % 3) = some (.int (m : Int)) ∧ m ≤ 16 := by
      have : (0 + (i : Int)) % 3 = 0 ∨ (0 + (i : Int)) % 3 = 1 ∨ (0 + (i : Int)) % 3 = 2 := by omega
      rcases this with e | e | e <;> rw [e]
      · exact ⟨16, rfl, by decide⟩
      · exact ⟨4, rfl, by decide⟩
      · exact ⟨6, rfl, by decide⟩
    obtain ⟨n, ts, u1, e1, n1, n2, tl, tok, hu1⟩ := O.call _ u 9 m true hu (by simp only [line]; omega) (by decide) (by decide) (by omega)
    replace e1 : X.call "_law_web" [u, .int 9, .int (m : Int), .bl true] = .ok (.val (webV n ts)) [u1, .int 9, .int (m : Int), .bl true] := e1
    obtain ⟨us, u2, e2, ul, uok, hu2⟩ := C.call _ u1 n ts hu1 (by simp only [line]; omega) (by omega) (by omega) tok
    have lw : isLk (webV n ts) = false := rfl
    have lw2 : isLk (webV n us) = false := rfl
    have i0 : ixP (webV n ts) (.int 0) = some (.int (n : Int)) := rfl
    have m3 : binP .Mod (.int (0 + (i : Int))) (.int 3) = some (.val (.int ((0 + (i : Int)) % 3))) := bp_mod (by decide)
    simp -dsimp only [asgP, asgPs, clOf, fs_some, lc_some, List.getElem?_cons_zero, List.getElem?_cons_succ, List.set_cons_zero, List.set_cons_succ, Option.getD_some, Option.bind_some, Option.map_some, reduceCtorEq, ↓reduceIte, List.length_cons, List.length_nil, ld_int, ld_tup, ld_bl, ld_str, ld_non, isLD, hx, lcl]
    simp -dsimp only [w_int, w_bl, w_str, w_non, w_var, w_glb, w_tup, w_lst, w_bin, w_neg, w_not, w_cmp, w_chain, w_and, w_or, w_ife, w_ix, w_sl, w_slL, w_slH, w_slB, w_rev, w_call, w_blt, w_meth, w_isi, w_dsp, w_rngL, w_rngT, lcSrc, w_lc, w_es0, w_es1, w_ts0, w_ts1, w_asg, subO, w_asgSub, w_expr, w_ret, w_retN, w_ite, w_for, w_whl, w_pass, w_brk, w_cont, w_ss0, w_ss1, th_nx, th_ret, th_brk, th_cont, ob_some, br_t, br_f, qb_ok, qb_assoc, rd_s, rd_non, rd_bl, rd_int, rd_str, rd_tup, rd_lst, rd_fro, rd_dct, lookO, looks, on1, on2, intO, force, forces, forceQ, asgF, asgO, asgP, asgPs, Opd.v, ld_non, ld_bl, ld_int, ld_str, ld_tup, ld_lst, ld_fro, ld_dct, lk_non, lk_bl, lk_int, lk_str, lk_tup, lk_lst, lk_fro, lk_dct, lk_lck, clOf, finQ_ret, finQ_nx, exitQ, outsP, callP, argsP, backP,  List.getElem?_cons_zero, List.getElem?_cons_succ, List.set_cons_zero, List.set_cons_succ, Option.getD_some, Option.map_some, Option.bind_some, reduceCtorEq, ↓reduceIte, if_true, if_false, noRef, noRefs, emb, embs, tr_bl, tr_int, tr_non, tr_tup, tr_lst, bp_add, bp_sub, cp_eqI, cp_neI, cp_eqS, cp_neS, cp_lt, cp_le, cp_gt, cp_ge, cp_in, cp_notin, cp_isN, cp_isnN, isNon, mx_int, mn_int, ln_tup, ln_lst, ln_fro, tu_lst, tu_tup, li_tup, li_lst, in_bl, in_int, ix_tup', ix_lst', at_0, at_1, at_2, at_3, canP, Bool.not_true, Bool.not_false, Bool.false_eq_true, Bool.true_and, Bool.and_true, Bool.and_self, decide_true, decide_false, methO, Me.reads, kd_str', kd_tup', kd_lst', kd_dct', or_true, true_or, or_false, false_or, and_true, true_and, and_self, ne_eq, not_false_eq_true, not_true_eq_false, eq_self,  srcP, lockO, unlockO, restP, Option.join_some, lc_some, lc_t, lc_f, fs_some, wipeP, List.length_cons, List.length_nil, Nat.reduceAdd, List.map_cons, List.map_nil, List.cons_append, List.nil_append, List.replicate, Nat.reduceSub, beq_self_eq_true, lcOk, MT.slots, MT.slotss, List.all_cons, List.all_nil, List.contains_cons, List.contains_nil, Bool.true_or, Bool.or_true, Bool.or_false, Bool.false_or, Nat.reduceBEq, rng_len, List.length_map, it_tup, it_lst, is_tup, is_int, is_bl, is_lst, is_str, is_non, rv_tup, hx, lcl, O.sig, C.sig, rd_any hu.lk, rd_any hu1.lk, rd_any hu2.lk, rd_any lw, m3, em, e1, e2, i0]
    refine .bnd ((forD_inv (fun j σ => ∃ x4 x5 x6, σ = [some (.fro (ns.map .int)), some u2, some (.int (0 + (i : Int))), some (webV n ts), x4, x5, x6, none]) ⟨_, _, _, rfl⟩ ?_).imp ?_)
    · rintro j w σ hj ⟨x4, x5, x6, rfl⟩
      have hw : OkW w := by
        have := List.mem_of_getElem? hj
        simp only [List.mem_cons, List.mem_nil_iff, or_false] at this
        rcases this with rfl | rfl | rfl
        · exact ⟨n, ts, rfl, by omega, by omega, tok⟩
        · exact ⟨n, us, rfl, by omega, by omega, uok⟩
        · exact ⟨n, [], rfl, by omega, by simp, by simp⟩
      simp -dsimp only [asgP, asgPs, clOf, fs_some, lc_some, List.getElem?_cons_zero, List.getElem?_cons_succ, List.set_cons_zero, List.set_cons_succ, Option.getD_some, Option.bind_some, Option.map_some, reduceCtorEq, ↓reduceIte, List.length_cons, List.length_nil, ld_int, ld_tup, ld_bl, ld_str, ld_non, isLD, hx, lcl]
      refine (look_ok hx A B hw).imp ?_
      rintro fl σ ⟨rfl, x5, x6, rfl⟩
      exact ⟨.inl rfl, _, x5, x6, rfl⟩
    · rintro fl σ ⟨rfl, x4, x5, x6, rfl⟩
      simp -dsimp only [w_int, w_bl, w_str, w_non, w_var, w_glb, w_tup, w_lst, w_bin, w_neg, w_not, w_cmp, w_chain, w_and, w_or, w_ife, w_ix, w_sl, w_slL, w_slH, w_slB, w_rev, w_call, w_blt, w_meth, w_isi, w_dsp, w_rngL, w_rngT, lcSrc, w_lc, w_es0, w_es1, w_ts0, w_ts1, w_asg, subO, w_asgSub, w_expr, w_ret, w_retN, w_ite, w_for, w_whl, w_pass, w_brk, w_cont, w_ss0, w_ss1, th_nx, th_ret, th_brk, th_cont, ob_some, br_t, br_f, qb_ok, qb_assoc, rd_s, rd_non, rd_bl, rd_int, rd_str, rd_tup, rd_lst, rd_fro, rd_dct, lookO, looks, on1, on2, intO, force, forces, forceQ, asgF, asgO, asgP, asgPs, Opd.v, ld_non, ld_bl, ld_int, ld_str, ld_tup, ld_lst, ld_fro, ld_dct, lk_non, lk_bl, lk_int, lk_str, lk_tup, lk_lst, lk_fro, lk_dct, lk_lck, clOf, finQ_ret, finQ_nx, exitQ, outsP, callP, argsP, backP,  List.getElem?_cons_zero, List.getElem?_cons_succ, List.set_cons_zero, List.set_cons_succ, Option.getD_some, Option.map_some, Option.bind_some, reduceCtorEq, ↓reduceIte, if_true, if_false, noRef, noRefs, emb, embs, tr_bl, tr_int, tr_non, tr_tup, tr_lst, bp_add, bp_sub, cp_eqI, cp_neI, cp_eqS, cp_neS, cp_lt, cp_le, cp_gt, cp_ge, cp_in, cp_notin, cp_isN, cp_isnN, isNon, mx_int, mn_int, ln_tup, ln_lst, ln_fro, tu_lst, tu_tup, li_tup, li_lst, in_bl, in_int, ix_tup', ix_lst', at_0, at_1, at_2, at_3, canP, Bool.not_true, Bool.not_false, Bool.false_eq_true, Bool.true_and, Bool.and_true, Bool.and_self, decide_true, decide_false, methO, Me.reads, kd_str', kd_tup', kd_lst', kd_dct', or_true, true_or, or_false, false_or, and_true, true_and, and_self, ne_eq, not_false_eq_true, not_true_eq_false, eq_self,  srcP, lockO, unlockO, restP, Option.join_some, lc_some, lc_t, lc_f, fs_some, wipeP, List.length_cons, List.length_nil, Nat.reduceAdd, List.map_cons, List.map_nil, List.cons_append, List.nil_append, List.replicate, Nat.reduceSub, beq_self_eq_true, lcOk, MT.slots, MT.slotss, List.all_cons, List.all_nil, List.contains_cons, List.contains_nil, Bool.true_or, Bool.or_true, Bool.or_false, Bool.false_or, Nat.reduceBEq, rng_len, List.length_map, it_tup, it_lst, is_tup, is_int, is_bl, is_lst, is_str, is_non, rv_tup, hx, lcl]
      exact .ok ⟨.inl rfl, u2, _, _, x4, x5, x6, hu2.mono (by omega), rfl⟩
  · rintro fl σ ⟨rfl, u, x2, x3, x4, x5, x6, hu, rfl⟩
    rw [rng_len] at hu
    obtain ⟨r, u1, e1, r0, r1, hu1⟩ := D.call _ u 6 hu (by simp only [line]; omega) (by decide) (by decide)
    by_cases c : 0 < r
    · simp -dsimp only [w_int, w_bl, w_str, w_non, w_var, w_glb, w_tup, w_lst, w_bin, w_neg, w_not, w_cmp, w_chain, w_and, w_or, w_ife, w_ix, w_sl, w_slL, w_slH, w_slB, w_rev, w_call, w_blt, w_meth, w_isi, w_dsp, w_rngL, w_rngT, lcSrc, w_lc, w_es0, w_es1, w_ts0, w_ts1, w_asg, subO, w_asgSub, w_expr, w_ret, w_retN, w_ite, w_for, w_whl, w_pass, w_brk, w_cont, w_ss0, w_ss1, th_nx, th_ret, th_brk, th_cont, ob_some, br_t, br_f, qb_ok, qb_assoc, rd_s, rd_non, rd_bl, rd_int, rd_str, rd_tup, rd_lst, rd_fro, rd_dct, lookO, looks, on1, on2, intO, force, forces, forceQ, asgF, asgO, asgP, asgPs, Opd.v, ld_non, ld_bl, ld_int, ld_str, ld_tup, ld_lst, ld_fro, ld_dct, lk_non, lk_bl, lk_int, lk_str, lk_tup, lk_lst, lk_fro, lk_dct, lk_lck, clOf, finQ_ret, finQ_nx, exitQ, outsP, callP, argsP, backP,  List.getElem?_cons_zero, List.getElem?_cons_succ, List.set_cons_zero, List.set_cons_succ, Option.getD_some, Option.map_some, Option.bind_some, reduceCtorEq, ↓reduceIte, if_true, if_false, noRef, noRefs, emb, embs, tr_bl, tr_int, tr_non, tr_tup, tr_lst, bp_add, bp_sub, cp_eqI, cp_neI, cp_eqS, cp_neS, cp_lt, cp_le, cp_gt, cp_ge, cp_in, cp_notin, cp_isN, cp_isnN, isNon, mx_int, mn_int, ln_tup, ln_lst, ln_fro, tu_lst, tu_tup, li_tup, li_lst, in_bl, in_int, ix_tup', ix_lst', at_0, at_1, at_2, at_3, canP, Bool.not_true, Bool.not_false, Bool.false_eq_true, Bool.true_and, Bool.and_true, Bool.and_self, decide_true, decide_false, methO, Me.reads, kd_str', kd_tup', kd_lst', kd_dct', or_true, true_or, or_false, false_or, and_true, true_and, and_self, ne_eq, not_false_eq_true, not_true_eq_false, eq_self,  srcP, lockO, unlockO, restP, Option.join_some, lc_some, lc_t, lc_f, fs_some, wipeP, List.length_cons, List.length_nil, Nat.reduceAdd, List.map_cons, List.map_nil, List.cons_append, List.nil_append, List.replicate, Nat.reduceSub, beq_self_eq_true, lcOk, MT.slots, MT.slotss, List.all_cons, List.all_nil, List.contains_cons, List.contains_nil, Bool.true_or, Bool.or_true, Bool.or_false, Bool.false_or, Nat.reduceBEq, rng_len, List.length_map, it_tup, it_lst, is_tup, is_int, is_bl, is_lst, is_str, is_non, rv_tup, hx, lcl, D.sig, rd_any hu.lk, rd_any hu1.lk, e1, c]
      refine .ok (.ret ?_)
      simp -dsimp only [w_int, w_bl, w_str, w_non, w_var, w_glb, w_tup, w_lst, w_bin, w_neg, w_not, w_cmp, w_chain, w_and, w_or, w_ife, w_ix, w_sl, w_slL, w_slH, w_slB, w_rev, w_call, w_blt, w_meth, w_isi, w_dsp, w_rngL, w_rngT, lcSrc, w_lc, w_es0, w_es1, w_ts0, w_ts1, w_asg, subO, w_asgSub, w_expr, w_ret, w_retN, w_ite, w_for, w_whl, w_pass, w_brk, w_cont, w_ss0, w_ss1, th_nx, th_ret, th_brk, th_cont, ob_some, br_t, br_f, qb_ok, qb_assoc, rd_s, rd_non, rd_bl, rd_int, rd_str, rd_tup, rd_lst, rd_fro, rd_dct, lookO, looks, on1, on2, intO, force, forces, forceQ, asgF, asgO, asgP, asgPs, Opd.v, ld_non, ld_bl, ld_int, ld_str, ld_tup, ld_lst, ld_fro, ld_dct, lk_non, lk_bl, lk_int, lk_str, lk_tup, lk_lst, lk_fro, lk_dct, lk_lck, clOf, finQ_ret, finQ_nx, exitQ, outsP, callP, argsP, backP,  List.getElem?_cons_zero, List.getElem?_cons_succ, List.set_cons_zero, List.set_cons_succ, Option.getD_some, Option.map_some, Option.bind_some, reduceCtorEq, ↓reduceIte, if_true, if_false, noRef, noRefs, emb, embs, tr_bl, tr_int, tr_non, tr_tup, tr_lst, bp_add, bp_sub, cp_eqI, cp_neI, cp_eqS, cp_neS, cp_lt, cp_le, cp_gt, cp_ge, cp_in, cp_notin, cp_isN, cp_isnN, isNon, mx_int, mn_int, ln_tup, ln_lst, ln_fro, tu_lst, tu_tup, li_tup, li_lst, in_bl, in_int, ix_tup', ix_lst', at_0, at_1, at_2, at_3, canP, Bool.not_true, Bool.not_false, Bool.false_eq_true, Bool.true_and, Bool.and_true, Bool.and_self, decide_true, decide_false, methO, Me.reads, kd_str', kd_tup', kd_lst', kd_dct', or_true, true_or, or_false, false_or, and_true, true_and, and_self, ne_eq, not_false_eq_true, not_true_eq_false, eq_self,  srcP, lockO, unlockO, restP, Option.join_some, lc_some, lc_t, lc_f, fs_some, wipeP, List.length_cons, List.length_nil, Nat.reduceAdd, List.map_cons, List.map_nil, List.cons_append, List.nil_append, List.replicate, Nat.reduceSub, beq_self_eq_true, lcOk, MT.slots, MT.slotss, List.all_cons, List.all_nil, List.contains_cons, List.contains_nil, Bool.true_or, Bool.or_true, Bool.or_false, Bool.false_or, Nat.reduceBEq, rng_len, List.length_map, it_tup, it_lst, is_tup, is_int, is_bl, is_lst, is_str, is_non, rv_tup]
      exact .ok rfl
    · obtain ⟨n, ts, u2, e2, n1, n2, tl, tok, hu2⟩ := Wd.call _ u1 64 hu1 (by simp only [line]; omega) (by decide)
      replace e2 : X.call "_law_wide" [u1, .int 64] = .ok (.val (webV n ts)) [u2, .int 64] := e2
      have lw : isLk (webV n ts) = false := rfl
      obtain ⟨g1, g2⟩ := parts_gd (ts := ts) n2
      have rp := repr_g g1 g2
      have e3 := A.call n ts true (by omega) tok
      have e4 := B.call n ts true (by omega) tok
      simp -dsimp only [w_int, w_bl, w_str, w_non, w_var, w_glb, w_tup, w_lst, w_bin, w_neg, w_not, w_cmp, w_chain, w_and, w_or, w_ife, w_ix, w_sl, w_slL, w_slH, w_slB, w_rev, w_call, w_blt, w_meth, w_isi, w_dsp, w_rngL, w_rngT, lcSrc, w_lc, w_es0, w_es1, w_ts0, w_ts1, w_asg, subO, w_asgSub, w_expr, w_ret, w_retN, w_ite, w_for, w_whl, w_pass, w_brk, w_cont, w_ss0, w_ss1, th_nx, th_ret, th_brk, th_cont, ob_some, br_t, br_f, qb_ok, qb_assoc, rd_s, rd_non, rd_bl, rd_int, rd_str, rd_tup, rd_lst, rd_fro, rd_dct, lookO, looks, on1, on2, intO, force, forces, forceQ, asgF, asgO, asgP, asgPs, Opd.v, ld_non, ld_bl, ld_int, ld_str, ld_tup, ld_lst, ld_fro, ld_dct, lk_non, lk_bl, lk_int, lk_str, lk_tup, lk_lst, lk_fro, lk_dct, lk_lck, clOf, finQ_ret, finQ_nx, exitQ, outsP, callP, argsP, backP,  List.getElem?_cons_zero, List.getElem?_cons_succ, List.set_cons_zero, List.set_cons_succ, Option.getD_some, Option.map_some, Option.bind_some, reduceCtorEq, ↓reduceIte, if_true, if_false, noRef, noRefs, emb, embs, tr_bl, tr_int, tr_non, tr_tup, tr_lst, bp_add, bp_sub, cp_eqI, cp_neI, cp_eqS, cp_neS, cp_lt, cp_le, cp_gt, cp_ge, cp_in, cp_notin, cp_isN, cp_isnN, isNon, mx_int, mn_int, ln_tup, ln_lst, ln_fro, tu_lst, tu_tup, li_tup, li_lst, in_bl, in_int, ix_tup', ix_lst', at_0, at_1, at_2, at_3, canP, Bool.not_true, Bool.not_false, Bool.false_eq_true, Bool.true_and, Bool.and_true, Bool.and_self, decide_true, decide_false, methO, Me.reads, kd_str', kd_tup', kd_lst', kd_dct', or_true, true_or, or_false, false_or, and_true, true_and, and_self, ne_eq, not_false_eq_true, not_true_eq_false, eq_self,  srcP, lockO, unlockO, restP, Option.join_some, lc_some, lc_t, lc_f, fs_some, wipeP, List.length_cons, List.length_nil, Nat.reduceAdd, List.map_cons, List.map_nil, List.cons_append, List.nil_append, List.replicate, Nat.reduceSub, beq_self_eq_true, lcOk, MT.slots, MT.slotss, List.all_cons, List.all_nil, List.contains_cons, List.contains_nil, Bool.true_or, Bool.or_true, Bool.or_false, Bool.false_or, Nat.reduceBEq, rng_len, List.length_map, it_tup, it_lst, is_tup, is_int, is_bl, is_lst, is_str, is_non, rv_tup, hx, lcl, D.sig, Wd.sig, A.sig, B.sig, rd_any hu.lk, rd_any hu1.lk, rd_any hu2.lk, rd_any lw, e1, e2, e3, e4, rp, c]
      refine .ok (.ret ?_)
      simp -dsimp only [w_int, w_bl, w_str, w_non, w_var, w_glb, w_tup, w_lst, w_bin, w_neg, w_not, w_cmp, w_chain, w_and, w_or, w_ife, w_ix, w_sl, w_slL, w_slH, w_slB, w_rev, w_call, w_blt, w_meth, w_isi, w_dsp, w_rngL, w_rngT, lcSrc, w_lc, w_es0, w_es1, w_ts0, w_ts1, w_asg, subO, w_asgSub, w_expr, w_ret, w_retN, w_ite, w_for, w_whl, w_pass, w_brk, w_cont, w_ss0, w_ss1, th_nx, th_ret, th_brk, th_cont, ob_some, br_t, br_f, qb_ok, qb_assoc, rd_s, rd_non, rd_bl, rd_int, rd_str, rd_tup, rd_lst, rd_fro, rd_dct, lookO, looks, on1, on2, intO, force, forces, forceQ, asgF, asgO, asgP, asgPs, Opd.v, ld_non, ld_bl, ld_int, ld_str, ld_tup, ld_lst, ld_fro, ld_dct, lk_non, lk_bl, lk_int, lk_str, lk_tup, lk_lst, lk_fro, lk_dct, lk_lck, clOf, finQ_ret, finQ_nx, exitQ, outsP, callP, argsP, backP,  List.getElem?_cons_zero, List.getElem?_cons_succ, List.set_cons_zero, List.set_cons_succ, Option.getD_some, Option.map_some, Option.bind_some, reduceCtorEq, ↓reduceIte, if_true, if_false, noRef, noRefs, emb, embs, tr_bl, tr_int, tr_non, tr_tup, tr_lst, bp_add, bp_sub, cp_eqI, cp_neI, cp_eqS, cp_neS, cp_lt, cp_le, cp_gt, cp_ge, cp_in, cp_notin, cp_isN, cp_isnN, isNon, mx_int, mn_int, ln_tup, ln_lst, ln_fro, tu_lst, tu_tup, li_tup, li_lst, in_bl, in_int, ix_tup', ix_lst', at_0, at_1, at_2, at_3, canP, Bool.not_true, Bool.not_false, Bool.false_eq_true, Bool.true_and, Bool.and_true, Bool.and_self, decide_true, decide_false, methO, Me.reads, kd_str', kd_tup', kd_lst', kd_dct', or_true, true_or, or_false, false_or, and_true, true_and, and_self, ne_eq, not_false_eq_true, not_true_eq_false, eq_self,  srcP, lockO, unlockO, restP, Option.join_some, lc_some, lc_t, lc_f, fs_some, wipeP, List.length_cons, List.length_nil, Nat.reduceAdd, List.map_cons, List.map_nil, List.cons_append, List.nil_append, List.replicate, Nat.reduceSub, beq_self_eq_true, lcOk, MT.slots, MT.slotss, List.all_cons, List.all_nil, List.contains_cons, List.contains_nil, Bool.true_or, Bool.or_true, Bool.or_false, Bool.false_or, Nat.reduceBEq, rng_len, List.length_map, it_tup, it_lst, is_tup, is_int, is_bl, is_lst, is_str, is_non, rv_tup]
      exact .ok rfl
end L04
end Mn

set_option autoImplicit true
namespace K04
open PySem PySem.Spec PyProof.Rows L2 Mn
def topS (i : Nat) : Stmt := PySem.Challenge.pw_oddjoins_k04_parts.main.body.getD i (.Pass ⟨0, 0, 0, 0⟩)
def b_beyond : List MS := [
  .ret (.bin .Sub (.bin .Add (.ix (.ix (.ix (.var 0) (.c (.int 1))) (.var 1)) (.c (.int 0))) (.ix (.ix (.ix (.var 0) (.c (.int 1))) (.var 1)) (.c (.int 1)))) (.var 2))]
def b_part_from : List MS := [
  .asg (.nm 2) (.dsp [.var 1, .c (.bl true)]),
  .asg (.nm 3) (.lst [.var 1]),
  .asg (.nm 4) (.c (.int 0)),
  .whl (.cmp .Lt (.var 4) (.blt .len [.var 3])) [
    .for_ (.tp [.nm 5, .nm 6]) .enum (.ix (.var 0) (.c (.int 1))) (.c .non) [
      .ite (.and_ (.cmp .In (.ix (.var 3) (.var 4)) (.slH (.var 6) (.c (.int 2)))) (.cmp .NotIn (.call "beyond" [.var 0, .var 5, .ix (.var 3) (.var 4)]) (.var 2))) [
        .asgSub (.var 2) (.call "beyond" [.var 0, .var 5, .ix (.var 3) (.var 4)]) (.c (.bl true)),
        .expr (.meth .append (.var 3) [.call "beyond" [.var 0, .var 5, .ix (.var 3) (.var 4)]])] []],
    .asg (.nm 4) (.bin .Add (.var 4) (.c (.int 1)))],
  .ret (.blt .tuple [.blt .sorted [.var 3]])]
def b_parts_of : List MS := [
  .asg (.nm 1) (.lst []),
  .asg (.nm 2) (.dsp []),
  .for_ (.nm 3) .rng1 (.ix (.var 0) (.c (.int 0))) (.c .non) [
    .ite (.cmp .NotIn (.var 3) (.var 2)) [
      .expr (.meth .append (.var 1) [.call "part_from" [.var 0, .var 3]]),
      .for_ (.nm 4) .val (.ix (.var 1) (.neg (.c (.int 1)))) (.c .non) [
        .asgSub (.var 2) (.var 4) (.c (.bl true))]] []],
  .ret (.blt .tuple [.var 1])]
def b__law_feed : List MS := [
  .ret (.lst [.slH (.var 0) (.c (.int 63)), .c (.int 0), .c (.int 0), .c (.int 0)])]
def b__law_draw : List MS := [
  .asgSub (.var 0) (.c (.int 3)) (.bin .Add (.ix (.var 0) (.c (.int 3))) (.c (.int 1))),
  .ite (.cmp .Gt (.ix (.var 0) (.c (.int 2))) (.c (.int 0))) [
    .asg (.nm 2) (.bin .Mod (.ix (.var 0) (.c (.int 2))) (.var 1)),
    .asgSub (.var 0) (.c (.int 2)) (.bin .FloorDiv (.ix (.var 0) (.c (.int 2))) (.var 1)),
    .ret (.var 2)] [],
  .asg (.nm 3) (.c (.int 7)),
  .ite (.cmp .NotEq (.ix (.var 0) (.c (.int 0))) (.lst [])) [
    .asg (.nm 3) (.ix (.ix (.var 0) (.c (.int 0))) (.bin .Mod (.ix (.var 0) (.c (.int 1))) (.blt .len [.ix (.var 0) (.c (.int 0))])))] [],
  .asgSub (.var 0) (.c (.int 1)) (.bin .Add (.ix (.var 0) (.c (.int 1))) (.c (.int 1))),
  .ite (.and_ (.cmp .GtE (.var 3) (.bin .Pow (.c (.int 10)) (.c (.int 18)))) (.cmp .LtE (.ix (.var 0) (.c (.int 1))) (.blt .len [.ix (.var 0) (.c (.int 0))]))) [
    .asgSub (.var 0) (.c (.int 2)) (.bin .FloorDiv (.var 3) (.var 1)),
    .ret (.bin .Mod (.var 3) (.var 1))] [],
  .asg (.nm 4) (.bin .Mod (.bin .Mult (.bin .Add (.bin .Mod (.var 3) (.c (.int 1000000007))) (.bin .Mult (.c (.int 40503)) (.ix (.var 0) (.c (.int 3))))) (.c (.int 48271))) (.c (.int 2147483629))),
  .asg (.nm 4) (.bin .Mod (.bin .Mult (.bin .Add (.bin .FloorDiv (.var 4) (.c (.int 17))) (.bin .Mult (.bin .Mult (.c (.int 977)) (.ix (.var 0) (.c (.int 3)))) (.ix (.var 0) (.c (.int 3))))) (.c (.int 69621))) (.c (.int 2147483587))),
  .ret (.bin .Mod (.bin .FloorDiv (.var 4) (.c (.int 64))) (.var 1))]
def b__law_price : List MS := [
  .asg (.nm 2) (.ix (.lst [.c (.int 1), .c (.int 2), .c (.int 3), .c (.int 0), .c (.int 5), .c (.int 1), .c (.int 99), .call "_law_draw" [.var 0, .c (.int 100)]]) (.call "_law_draw" [.var 0, .c (.int 8)])),
  .ret (.ife (.and_ (.var 1) (.cmp .Eq (.call "_law_draw" [.var 0, .c (.int 3)]) (.c (.int 0)))) (.neg (.var 2)) (.var 2))]
def b__law_web : List MS := [
  .asg (.nm 4) (.bin .Add (.c (.int 1)) (.call "_law_draw" [.var 0, .var 1])),
  .asg (.nm 5) (.call "_law_draw" [.var 0, .c (.int 4)]),
  .asg (.nm 6) (.lst []),
  .ite (.cmp .Lt (.var 5) (.c (.int 2))) [
    .asg (.nm 6) (.lc (.tup [.var 7, .bin .Add (.var 7) (.c (.int 1)), .call "_law_price" [.var 0, .var 3]]) (.nm 7) .rng1 (.bin .Sub (.var 4) (.c (.int 1))) (.c .non) [] [7])] [],
  .ite (.and_ (.cmp .Eq (.var 5) (.c (.int 0))) (.cmp .Gt (.var 4) (.c (.int 1)))) [
    .expr (.meth .append (.var 6) [.tup [.c (.int 0), .bin .Sub (.var 4) (.c (.int 1)), .call "_law_price" [.var 0, .var 3]]])] [],
  .for_ (.nm 7) .rng1 (.bin .Mult (.call "_law_draw" [.var 0, .bin .Add (.var 2) (.c (.int 1))]) (.blt .int [.cmp .Gt (.var 4) (.c (.int 1))])) (.c .non) [
    .asg (.nm 8) (.call "_law_draw" [.var 0, .bin .Sub (.var 4) (.c (.int 1))]),
    .asg (.nm 9) (.tup [.var 8, .bin .Add (.bin .Add (.var 8) (.c (.int 1))) (.call "_law_draw" [.var 0, .bin .Sub (.bin .Sub (.var 4) (.c (.int 1))) (.var 8)]), .call "_law_price" [.var 0, .var 3]]),
    .ite (.and_ (.cmp .NotEq (.var 6) (.lst [])) (.cmp .Eq (.call "_law_draw" [.var 0, .c (.int 5)]) (.c (.int 0)))) [
      .asg (.nm 9) (.ix (.var 6) (.call "_law_draw" [.var 0, .blt .len [.var 6]]))] [],
    .expr (.meth .insert (.var 6) [.call "_law_draw" [.var 0, .bin .Add (.blt .len [.var 6]) (.c (.int 1))], .var 9])],
  .ret (.tup [.var 4, .blt .tuple [.slH (.var 6) (.var 2)]])]
def b__law_wide : List MS := [
  .asg (.nm 2) (.ix (.lst [.c (.int 60), .c (.int 10), .c (.int 11), .bin .Add (.c (.int 10)) (.call "_law_draw" [.var 0, .c (.int 51)])]) (.call "_law_draw" [.var 0, .c (.int 4)])),
  .asg (.nm 3) (.rngL (.c (.int 0)) (.var 2)),
  .asg (.nm 4) (.lc (.meth .pop (.var 3) [.call "_law_draw" [.var 0, .blt .len [.var 3]]]) (.nm 5) .rng1 (.var 2) (.c .non) [] [5]),
  .asg (.nm 6) (.call "_law_draw" [.var 0, .c (.int 3)]),
  .asg (.nm 7) (.lc (.tup [.ix (.var 4) (.bin .Sub (.var 5) (.c (.int 1))), .ix (.var 4) (.var 5)]) (.nm 5) .rng2 (.var 6) (.var 2) [] [5]),
  .ite (.cmp .Eq (.var 6) (.c (.int 2))) [
    .asg (.nm 7) (.lst []),
    .for_ (.nm 5) .rng1 (.call "_law_draw" [.var 0, .bin .Add (.var 1) (.c (.int 1))]) (.c .non) [
      .asg (.nm 8) (.call "_law_draw" [.var 0, .var 2]),
      .expr (.meth .append (.var 7) [.tup [.var 8, .bin .Mod (.bin .Add (.bin .Add (.var 8) (.c (.int 1))) (.call "_law_draw" [.var 0, .bin .Sub (.var 2) (.c (.int 1))])) (.var 2)]])]] [],
  .ret (.tup [.var 2, .blt .tuple [.lc (.tup [.blt .min [.var 9], .blt .max [.var 9], .call "_law_price" [.var 0, .c (.bl true)]]) (.nm 9) .val (.var 7) (.c .non) [] [9]]])]
def b__law_parts : List MS := [
  .asg (.nm 1) (.rngL (.c (.int 0)) (.ix (.var 0) (.c (.int 0)))),
  .for_ (.tp [.nm 2, .nm 3, .nm 4]) .val (.ix (.var 0) (.c (.int 1))) (.c .non) [
    .asg (.tp [.nm 5, .nm 6]) (.tup [.blt .min [.ix (.var 1) (.var 2), .ix (.var 1) (.var 3)], .blt .max [.ix (.var 1) (.var 2), .ix (.var 1) (.var 3)]]),
    .asg (.nm 1) (.lc (.ife (.cmp .Eq (.var 7) (.var 6)) (.var 5) (.var 7)) (.nm 7) .val (.var 1) (.c .non) [] [7])],
  .asg (.nm 8) (.lst []),
  .for_ (.nm 9) .rng1 (.ix (.var 0) (.c (.int 0))) (.c .non) [
    .ite (.cmp .Eq (.ix (.var 1) (.var 9)) (.var 9)) [
      .expr (.meth .append (.var 8) [.blt .tuple [.lc (.var 10) (.nm 10) .rng1 (.ix (.var 0) (.c (.int 0))) (.c .non) [.cmp .Eq (.ix (.var 1) (.var 10)) (.var 9)] [10]]])] []],
  .ret (.blt .tuple [.var 8])]
def b__law_called : List MS := [
  .asg (.nm 2) (.rngL (.c (.int 0)) (.ix (.var 1) (.c (.int 0)))),
  .asg (.nm 3) (.lc (.meth .pop (.var 2) [.call "_law_draw" [.var 0, .blt .len [.var 2]]]) (.nm 4) .rng1 (.ix (.var 1) (.c (.int 0))) (.c .non) [] [4]),
  .asg (.nm 5) (.lst []),
  .for_ (.tp [.nm 6, .nm 7, .nm 8]) .val (.ix (.var 1) (.c (.int 1))) (.c .non) [
    .expr (.meth .append (.var 5) [.tup [.blt .min [.ix (.var 3) (.var 6), .ix (.var 3) (.var 7)], .blt .max [.ix (.var 3) (.var 6), .ix (.var 3) (.var 7)], .var 8]])],
  .ret (.tup [.ix (.var 1) (.c (.int 0)), .blt .tuple [.var 5]])]
def b_law : List MS := [
  .asg (.nm 1) (.call "_law_feed" [.var 0]),
  .for_ (.nm 2) .rng1 (.c (.int 6)) (.c .non) [
    .asg (.nm 3) (.call "_law_web" [.var 1, .c (.int 9), .ix (.lst [.c (.int 16), .c (.int 4), .c (.int 6)]) (.bin .Mod (.var 2) (.c (.int 3))), .c (.bl true)]),
    .for_ (.nm 4) .val (.tup [.var 3, .call "_law_called" [.var 1, .var 3], .tup [.ix (.var 3) (.c (.int 0)), .tup []]]) (.c .non) [
      .asg (.nm 5) (.blt .repr [.var 4]),
      .asg (.nm 6) (.blt .repr [.call "_law_parts" [.var 4]]),
      .ite (.or_ (.cmp .NotEq (.blt .repr [.call "parts_of" [.var 4]]) (.var 6)) (.or_ (.cmp .NotEq (.blt .repr [.call "parts_of" [.var 4]]) (.var 6)) (.cmp .NotEq (.blt .repr [.var 4]) (.var 5)))) [
        .ret (.c (.bl false))] []]],
  .ite (.cmp .Gt (.call "_law_draw" [.var 1, .c (.int 6)]) (.c (.int 0))) [
    .ret (.c (.bl true))] [],
  .asg (.nm 7) (.call "_law_wide" [.var 1, .c (.int 64)]),
  .ret (.cmp .Eq (.blt .repr [.call "parts_of" [.var 7]]) (.blt .repr [.call "_law_parts" [.var 7]]))]
abbrev s_beyond : Stmt := topS 1
def e_beyond : En := ⟨"beyond", s_beyond, ["web", "number", "place"], ["web", "number", "place"], b_beyond⟩
abbrev s_part_from : Stmt := topS 2
def e_part_from : En := ⟨"part_from", s_part_from, ["web", "place", "known", "line", "at", "number", "tie"], ["web", "place"], b_part_from⟩
abbrev s_parts_of : Stmt := topS 3
def e_parts_of : En := ⟨"parts_of", s_parts_of, ["web", "found", "known", "place", "one"], ["web"], b_parts_of⟩
abbrev s__law_feed : Stmt := topS 5
def e__law_feed : En := ⟨"_law_feed", s__law_feed, ["_law_script"], ["_law_script"], b__law_feed⟩
abbrev s__law_draw : Stmt := topS 6
def e__law_draw : En := ⟨"_law_draw", s__law_draw, ["_law_feed_here", "_law_many", "_law_found", "_law_cell", "_law_mixed"], ["_law_feed_here", "_law_many"], b__law_draw⟩
abbrev s__law_price : Stmt := topS 7
def e__law_price : En := ⟨"_law_price", s__law_price, ["_law_feed_here", "_law_signed", "_law_price_here"], ["_law_feed_here", "_law_signed"], b__law_price⟩
abbrev s__law_web : Stmt := topS 8
def e__law_web : En := ⟨"_law_web", s__law_web, ["_law_feed_here", "_law_most", "_law_ties", "_law_signed", "_law_many", "_law_way", "_law_found", "_law_k", "_law_a", "_law_tie"], ["_law_feed_here", "_law_most", "_law_ties", "_law_signed"], b__law_web⟩
abbrev s__law_wide : Stmt := topS 9
def e__law_wide : En := ⟨"_law_wide", s__law_wide, ["_law_feed_here", "_law_ties", "_law_many", "_law_left", "_law_names", "_law_k", "_law_way", "_law_pairs", "_law_a", "_law_pair"], ["_law_feed_here", "_law_ties"], b__law_wide⟩
abbrev s__law_parts : Stmt := topS 10
def e__law_parts : En := ⟨"_law_parts", s__law_parts, ["_law_web_here", "_law_names", "_law_a", "_law_b", "_law_price_here", "_law_one", "_law_other", "_law_name", "_law_found", "_law_place", "_law_k"], ["_law_web_here"], b__law_parts⟩
abbrev s__law_called : Stmt := topS 11
def e__law_called : En := ⟨"_law_called", s__law_called, ["_law_feed_here", "_law_web_here", "_law_left", "_law_names", "_law_k", "_law_ties", "_law_a", "_law_b", "_law_price_here"], ["_law_feed_here", "_law_web_here"], b__law_called⟩
abbrev s_law : Stmt := topS 12
def e_law : En := ⟨"law", s_law, ["_law_script", "_law_feed_here", "_law_k", "_law_web_here", "_law_one", "_law_kept", "_law_due", "_law_wide_here"], ["_law_script"], b_law⟩
def tab : List En := [e_beyond, e_part_from, e_parts_of, e__law_feed, e__law_draw, e__law_price, e__law_web, e__law_wide, e__law_parts, e__law_called, e_law]
def Bs : List Str := ["enumerate", "int", "len", "list", "max", "min", "range", "repr", "sorted", "tuple"]
def Gs : List Str := []
def gl (x : Str) : Option MV := none
abbrev Gm : Str → Option FD := tabGm tab
def fuel : Nat := 1000000
abbrev run (d : Nat) : Str → List MV → MH → R MV := runF Gm gl fuel d
theorem ok_beyond : EnOk Bs Gs (names tab) e_beyond := ⟨⟨rfl, rfl, rfl, by decide +kernel, rfl, by decide +kernel, by decide +kernel⟩, by kernel_rfl⟩
theorem ok_part_from : EnOk Bs Gs (names tab) e_part_from := ⟨⟨rfl, rfl, rfl, by decide +kernel, rfl, by decide +kernel, by decide +kernel⟩, by kernel_rfl⟩
theorem ok_parts_of : EnOk Bs Gs (names tab) e_parts_of := ⟨⟨rfl, rfl, rfl, by decide +kernel, rfl, by decide +kernel, by decide +kernel⟩, by kernel_rfl⟩
theorem ok__law_feed : EnOk Bs Gs (names tab) e__law_feed := ⟨⟨rfl, rfl, rfl, by decide +kernel, rfl, by decide +kernel, by decide +kernel⟩, by kernel_rfl⟩
theorem ok__law_draw : EnOk Bs Gs (names tab) e__law_draw := ⟨⟨rfl, rfl, rfl, by decide +kernel, rfl, by decide +kernel, by decide +kernel⟩, by kernel_rfl⟩
theorem ok__law_price : EnOk Bs Gs (names tab) e__law_price := ⟨⟨rfl, rfl, rfl, by decide +kernel, rfl, by decide +kernel, by decide +kernel⟩, by kernel_rfl⟩
theorem ok__law_web : EnOk Bs Gs (names tab) e__law_web := ⟨⟨rfl, rfl, rfl, by decide +kernel, rfl, by decide +kernel, by decide +kernel⟩, by kernel_rfl⟩
theorem ok__law_wide : EnOk Bs Gs (names tab) e__law_wide := ⟨⟨rfl, rfl, rfl, by decide +kernel, rfl, by decide +kernel, by decide +kernel⟩, by kernel_rfl⟩
theorem ok__law_parts : EnOk Bs Gs (names tab) e__law_parts := ⟨⟨rfl, rfl, rfl, by decide +kernel, rfl, by decide +kernel, by decide +kernel⟩, by kernel_rfl⟩
theorem ok__law_called : EnOk Bs Gs (names tab) e__law_called := ⟨⟨rfl, rfl, rfl, by decide +kernel, rfl, by decide +kernel, by decide +kernel⟩, by kernel_rfl⟩
theorem ok_law : EnOk Bs Gs (names tab) e_law := ⟨⟨rfl, rfl, rfl, by decide +kernel, rfl, by decide +kernel, by decide +kernel⟩, by kernel_rfl⟩
theorem ok_all : ∀ e ∈ tab, EnOk Bs Gs (names tab) e := by
  intro e he
  simp only [tab, List.mem_cons, List.mem_nil_iff, or_false] at he
  rcases he with rfl | rfl | rfl | rfl | rfl | rfl | rfl | rfl | rfl | rfl | rfl
  · exact ok_beyond
  · exact ok_part_from
  · exact ok_parts_of
  · exact ok__law_feed
  · exact ok__law_draw
  · exact ok__law_price
  · exact ok__law_web
  · exact ok__law_wide
  · exact ok__law_parts
  · exact ok__law_called
  · exact ok_law
theorem nd_tab : (names tab).Nodup := by decide +kernel
theorem g_beyond : Gm "beyond" = some ⟨3, 3, b_beyond⟩ := by kernel_rfl
theorem g_part_from : Gm "part_from" = some ⟨2, 7, b_part_from⟩ := by kernel_rfl
theorem g_parts_of : Gm "parts_of" = some ⟨1, 5, b_parts_of⟩ := by kernel_rfl
theorem g__law_feed : Gm "_law_feed" = some ⟨1, 1, b__law_feed⟩ := by kernel_rfl
theorem g__law_draw : Gm "_law_draw" = some ⟨2, 5, b__law_draw⟩ := by kernel_rfl
theorem g__law_price : Gm "_law_price" = some ⟨2, 3, b__law_price⟩ := by kernel_rfl
theorem g__law_web : Gm "_law_web" = some ⟨4, 10, b__law_web⟩ := by kernel_rfl
theorem g__law_wide : Gm "_law_wide" = some ⟨2, 10, b__law_wide⟩ := by kernel_rfl
theorem g__law_parts : Gm "_law_parts" = some ⟨1, 11, b__law_parts⟩ := by kernel_rfl
theorem g__law_called : Gm "_law_called" = some ⟨2, 9, b__law_called⟩ := by kernel_rfl
theorem g_law : Gm "law" = some ⟨1, 8, b_law⟩ := by kernel_rfl
set_option maxHeartbeats 4000000 in
theorem all_mk {l : PySem.W.OpenLaw} {w : World} {K : PySem.W.Frag} {h : Heap} {mg : Str → Option Value} {fa : Addr} (X : K.In h) (G : h.Ns mainGlobals mg) (hfa : mg "law" = some (.ref fa)) {dd : Nat}
    {f0 : Addr} {od0 an0 : Option Addr} {sl0 : Array (Option Value)} {oc0 kV0 dc0 pm0 cd0 ct0 : Value}
    (a0 : PySem.W.nsIn K mainGlobals "beyond" = some (some (.ref f0))) (l0 : K.lookup f0 = some ⟨oc0, od0, .func (PySem.W.fnOf "beyond" "beyond" (defArgs s_beyond) (defBody s_beyond) (defScope s_beyond) .none kV0 dc0 pm0 an0 cd0 ct0), sl0⟩) (c0 : PySem.W.codeIn K cd0 "beyond" = true) (k0 : PySem.W.keepIn K (.ref f0) = true)
    {f1 : Addr} {od1 an1 : Option Addr} {sl1 : Array (Option Value)} {oc1 kV1 dc1 pm1 cd1 ct1 : Value}
    (a1 : PySem.W.nsIn K mainGlobals "part_from" = some (some (.ref f1))) (l1 : K.lookup f1 = some ⟨oc1, od1, .func (PySem.W.fnOf "part_from" "part_from" (defArgs s_part_from) (defBody s_part_from) (defScope s_part_from) .none kV1 dc1 pm1 an1 cd1 ct1), sl1⟩) (c1 : PySem.W.codeIn K cd1 "part_from" = true) (k1 : PySem.W.keepIn K (.ref f1) = true)
    {f2 : Addr} {od2 an2 : Option Addr} {sl2 : Array (Option Value)} {oc2 kV2 dc2 pm2 cd2 ct2 : Value}
    (a2 : PySem.W.nsIn K mainGlobals "parts_of" = some (some (.ref f2))) (l2 : K.lookup f2 = some ⟨oc2, od2, .func (PySem.W.fnOf "parts_of" "parts_of" (defArgs s_parts_of) (defBody s_parts_of) (defScope s_parts_of) .none kV2 dc2 pm2 an2 cd2 ct2), sl2⟩) (c2 : PySem.W.codeIn K cd2 "parts_of" = true) (k2 : PySem.W.keepIn K (.ref f2) = true)
    {f3 : Addr} {od3 an3 : Option Addr} {sl3 : Array (Option Value)} {oc3 kV3 dc3 pm3 cd3 ct3 : Value}
    (a3 : PySem.W.nsIn K mainGlobals "_law_feed" = some (some (.ref f3))) (l3 : K.lookup f3 = some ⟨oc3, od3, .func (PySem.W.fnOf "_law_feed" "_law_feed" (defArgs s__law_feed) (defBody s__law_feed) (defScope s__law_feed) .none kV3 dc3 pm3 an3 cd3 ct3), sl3⟩) (c3 : PySem.W.codeIn K cd3 "_law_feed" = true) (k3 : PySem.W.keepIn K (.ref f3) = true)
    {f4 : Addr} {od4 an4 : Option Addr} {sl4 : Array (Option Value)} {oc4 kV4 dc4 pm4 cd4 ct4 : Value}
    (a4 : PySem.W.nsIn K mainGlobals "_law_draw" = some (some (.ref f4))) (l4 : K.lookup f4 = some ⟨oc4, od4, .func (PySem.W.fnOf "_law_draw" "_law_draw" (defArgs s__law_draw) (defBody s__law_draw) (defScope s__law_draw) .none kV4 dc4 pm4 an4 cd4 ct4), sl4⟩) (c4 : PySem.W.codeIn K cd4 "_law_draw" = true) (k4 : PySem.W.keepIn K (.ref f4) = true)
    {f5 : Addr} {od5 an5 : Option Addr} {sl5 : Array (Option Value)} {oc5 kV5 dc5 pm5 cd5 ct5 : Value}
    (a5 : PySem.W.nsIn K mainGlobals "_law_price" = some (some (.ref f5))) (l5 : K.lookup f5 = some ⟨oc5, od5, .func (PySem.W.fnOf "_law_price" "_law_price" (defArgs s__law_price) (defBody s__law_price) (defScope s__law_price) .none kV5 dc5 pm5 an5 cd5 ct5), sl5⟩) (c5 : PySem.W.codeIn K cd5 "_law_price" = true) (k5 : PySem.W.keepIn K (.ref f5) = true)
    {f6 : Addr} {od6 an6 : Option Addr} {sl6 : Array (Option Value)} {oc6 kV6 dc6 pm6 cd6 ct6 : Value}
    (a6 : PySem.W.nsIn K mainGlobals "_law_web" = some (some (.ref f6))) (l6 : K.lookup f6 = some ⟨oc6, od6, .func (PySem.W.fnOf "_law_web" "_law_web" (defArgs s__law_web) (defBody s__law_web) (defScope s__law_web) .none kV6 dc6 pm6 an6 cd6 ct6), sl6⟩) (c6 : PySem.W.codeIn K cd6 "_law_web" = true) (k6 : PySem.W.keepIn K (.ref f6) = true)
    {f7 : Addr} {od7 an7 : Option Addr} {sl7 : Array (Option Value)} {oc7 kV7 dc7 pm7 cd7 ct7 : Value}
    (a7 : PySem.W.nsIn K mainGlobals "_law_wide" = some (some (.ref f7))) (l7 : K.lookup f7 = some ⟨oc7, od7, .func (PySem.W.fnOf "_law_wide" "_law_wide" (defArgs s__law_wide) (defBody s__law_wide) (defScope s__law_wide) .none kV7 dc7 pm7 an7 cd7 ct7), sl7⟩) (c7 : PySem.W.codeIn K cd7 "_law_wide" = true) (k7 : PySem.W.keepIn K (.ref f7) = true)
    {f8 : Addr} {od8 an8 : Option Addr} {sl8 : Array (Option Value)} {oc8 kV8 dc8 pm8 cd8 ct8 : Value}
    (a8 : PySem.W.nsIn K mainGlobals "_law_parts" = some (some (.ref f8))) (l8 : K.lookup f8 = some ⟨oc8, od8, .func (PySem.W.fnOf "_law_parts" "_law_parts" (defArgs s__law_parts) (defBody s__law_parts) (defScope s__law_parts) .none kV8 dc8 pm8 an8 cd8 ct8), sl8⟩) (c8 : PySem.W.codeIn K cd8 "_law_parts" = true) (k8 : PySem.W.keepIn K (.ref f8) = true)
    {f9 : Addr} {od9 an9 : Option Addr} {sl9 : Array (Option Value)} {oc9 kV9 dc9 pm9 cd9 ct9 : Value}
    (a9 : PySem.W.nsIn K mainGlobals "_law_called" = some (some (.ref f9))) (l9 : K.lookup f9 = some ⟨oc9, od9, .func (PySem.W.fnOf "_law_called" "_law_called" (defArgs s__law_called) (defBody s__law_called) (defScope s__law_called) .none kV9 dc9 pm9 an9 cd9 ct9), sl9⟩) (c9 : PySem.W.codeIn K cd9 "_law_called" = true) (k9 : PySem.W.keepIn K (.ref f9) = true)
    {f10 : Addr} {od10 an10 : Option Addr} {sl10 : Array (Option Value)} {oc10 kV10 dc10 pm10 cd10 ct10 : Value}
    (a10 : PySem.W.nsIn K mainGlobals "law" = some (some (.ref f10))) (l10 : K.lookup f10 = some ⟨oc10, od10, .func (PySem.W.fnOf "law" "law" (defArgs s_law) (defBody s_law) (defScope s_law) .none kV10 dc10 pm10 an10 cd10 ct10), sl10⟩) (c10 : PySem.W.codeIn K cd10 "law" = true) (k10 : PySem.W.keepIn K (.ref f10) = true)
    (z0 : PySem.W.nsIn K mainGlobals "enumerate" = some none)
    (z1 : PySem.W.nsIn K mainGlobals "int" = some none)
    (z2 : PySem.W.nsIn K mainGlobals "len" = some none)
    (z3 : PySem.W.nsIn K mainGlobals "list" = some none)
    (z4 : PySem.W.nsIn K mainGlobals "max" = some none)
    (z5 : PySem.W.nsIn K mainGlobals "min" = some none)
    (z6 : PySem.W.nsIn K mainGlobals "range" = some none)
    (z7 : PySem.W.nsIn K mainGlobals "repr" = some none)
    (z8 : PySem.W.nsIn K mainGlobals "sorted" = some none)
    (z9 : PySem.W.nsIn K mainGlobals "tuple" = some none)
    : ∃ fd : FuncData, (∀ (s : Shared) (v : Value), BindsTo s fd ⟨[v], []⟩ [("_law_script", v)]) ∧ ∀ base : Heap, K.In base → base.Ns mainGlobals mg → FnG l.prog w K mg base dd fa fd ["_law_script"] (spM K (run dd) "law" 1) := by
  have e := hfa.symm.trans (PySem.W.mg_of X G a10)
  cases e
  have F0 := fun_mk (st := s_beyond) l0 c0 k0
  have A0 : EnAt K mg e_beyond f0 _ := ⟨F0, PySem.W.mg_of X G a0, F0.binds (ps := ["web", "number", "place"]) fun _ _ _ _ _ _ us hl => match us, hl with | [_, _, _], _ => rfl⟩
  have F1 := fun_mk (st := s_part_from) l1 c1 k1
  have A1 : EnAt K mg e_part_from f1 _ := ⟨F1, PySem.W.mg_of X G a1, F1.binds (ps := ["web", "place"]) fun _ _ _ _ _ _ us hl => match us, hl with | [_, _], _ => rfl⟩
  have F2 := fun_mk (st := s_parts_of) l2 c2 k2
  have A2 : EnAt K mg e_parts_of f2 _ := ⟨F2, PySem.W.mg_of X G a2, F2.binds (ps := ["web"]) fun _ _ _ _ _ _ us hl => match us, hl with | [_], _ => rfl⟩
  have F3 := fun_mk (st := s__law_feed) l3 c3 k3
  have A3 : EnAt K mg e__law_feed f3 _ := ⟨F3, PySem.W.mg_of X G a3, F3.binds (ps := ["_law_script"]) fun _ _ _ _ _ _ us hl => match us, hl with | [_], _ => rfl⟩
  have F4 := fun_mk (st := s__law_draw) l4 c4 k4
  have A4 : EnAt K mg e__law_draw f4 _ := ⟨F4, PySem.W.mg_of X G a4, F4.binds (ps := ["_law_feed_here", "_law_many"]) fun _ _ _ _ _ _ us hl => match us, hl with | [_, _], _ => rfl⟩
  have F5 := fun_mk (st := s__law_price) l5 c5 k5
  have A5 : EnAt K mg e__law_price f5 _ := ⟨F5, PySem.W.mg_of X G a5, F5.binds (ps := ["_law_feed_here", "_law_signed"]) fun _ _ _ _ _ _ us hl => match us, hl with | [_, _], _ => rfl⟩
  have F6 := fun_mk (st := s__law_web) l6 c6 k6
  have A6 : EnAt K mg e__law_web f6 _ := ⟨F6, PySem.W.mg_of X G a6, F6.binds (ps := ["_law_feed_here", "_law_most", "_law_ties", "_law_signed"]) fun _ _ _ _ _ _ us hl => match us, hl with | [_, _, _, _], _ => rfl⟩
  have F7 := fun_mk (st := s__law_wide) l7 c7 k7
  have A7 : EnAt K mg e__law_wide f7 _ := ⟨F7, PySem.W.mg_of X G a7, F7.binds (ps := ["_law_feed_here", "_law_ties"]) fun _ _ _ _ _ _ us hl => match us, hl with | [_, _], _ => rfl⟩
  have F8 := fun_mk (st := s__law_parts) l8 c8 k8
  have A8 : EnAt K mg e__law_parts f8 _ := ⟨F8, PySem.W.mg_of X G a8, F8.binds (ps := ["_law_web_here"]) fun _ _ _ _ _ _ us hl => match us, hl with | [_], _ => rfl⟩
  have F9 := fun_mk (st := s__law_called) l9 c9 k9
  have A9 : EnAt K mg e__law_called f9 _ := ⟨F9, PySem.W.mg_of X G a9, F9.binds (ps := ["_law_feed_here", "_law_web_here"]) fun _ _ _ _ _ _ us hl => match us, hl with | [_, _], _ => rfl⟩
  have F10 := fun_mk (st := s_law) l10 c10 k10
  have A10 : EnAt K mg e_law fa _ := ⟨F10, PySem.W.mg_of X G a10, F10.binds (ps := ["_law_script"]) fun _ _ _ _ _ _ us hl => match us, hl with | [_], _ => rfl⟩
  have hA : ∀ e ∈ tab, ∃ f fd, EnAt K mg e f fd := by
    intro e he
    simp only [tab, List.mem_cons, List.mem_nil_iff, or_false] at he
    rcases he with rfl | rfl | rfl | rfl | rfl | rfl | rfl | rfl | rfl | rfl | rfl
    · exact ⟨_, _, A0⟩
    · exact ⟨_, _, A1⟩
    · exact ⟨_, _, A2⟩
    · exact ⟨_, _, A3⟩
    · exact ⟨_, _, A4⟩
    · exact ⟨_, _, A5⟩
    · exact ⟨_, _, A6⟩
    · exact ⟨_, _, A7⟩
    · exact ⟨_, _, A8⟩
    · exact ⟨_, _, A9⟩
    · exact ⟨_, _, A10⟩
  have hB : ∀ x ∈ Bs, mg x = none := by
    intro x hx
    simp only [Bs, List.mem_cons, List.mem_nil_iff, or_false] at hx
    rcases hx with rfl | rfl | rfl | rfl | rfl | rfl | rfl | rfl | rfl | rfl
    · exact PySem.W.mg_none_of X G z0
    · exact PySem.W.mg_none_of X G z1
    · exact PySem.W.mg_none_of X G z2
    · exact PySem.W.mg_none_of X G z3
    · exact PySem.W.mg_none_of X G z4
    · exact PySem.W.mg_none_of X G z5
    · exact PySem.W.mg_none_of X G z6
    · exact PySem.W.mg_none_of X G z7
    · exact PySem.W.mg_none_of X G z8
    · exact PySem.W.mg_none_of X G z9
  have hG : ∀ x v, gl x = some v → ∃ u w', mg x = some u ∧ RelV w' u ∧ ∀ ρ H, Rep K ρ H v w' := by
    intro x v hv
    unfold gl at hv
    cases hv
  exact ⟨PySem.W.fnOf "law" "law" (defArgs s_law) (defBody s_law) (defScope s_law) .none kV10 dc10 pm10 an10 cd10 ct10, fun s v => .of_eq rfl, fun base _ _ => program_ok nd_tab ok_all hA hB hG dd e_law (by simp [tab]) _ _ A10⟩
def info (x : Str) : List Cls × List PK × Bool := if x = "beyond" then ([.sh, .sh, .sh], [.pl, .pl, .pl], false) else if x = "part_from" then ([.sh, .sh, .ow, .ow, .sh, .sh, .sh], [.pl, .pl], false) else if x = "parts_of" then ([.sh, .ow, .ow, .sh, .sh], [.pl], false) else if x = "_law_feed" then ([.sh], [.pl], true) else if x = "_law_draw" then ([.io, .sh, .sh, .sh, .sh], [.io, .pl], false) else if x = "_law_price" then ([.io, .sh, .sh], [.io, .pl], false) else if x = "_law_web" then ([.io, .sh, .sh, .sh, .sh, .sh, .ow, .sh, .sh, .sh], [.io, .pl, .pl, .pl], false) else if x = "_law_wide" then ([.io, .sh, .sh, .ow, .sh, .sh, .sh, .ow, .sh, .sh], [.io, .pl], false) else if x = "_law_parts" then ([.sh, .sh, .sh, .sh, .sh, .sh, .sh, .sh, .ow, .sh, .sh], [.pl], false) else if x = "_law_called" then ([.io, .sh, .ow, .sh, .sh, .ow, .sh, .sh, .sh], [.io, .pl], false) else if x = "law" then ([.sh, .ow, .sh, .sh, .sh, .sh, .sh, .sh], [.pl], false) else ([], [], false)
def Gp (x : Str) : Option FP := (Gm x).map fun d => ⟨d.np, d.nl, d.body, (info x).1, (info x).2.1, (info x).2.2⟩
theorem gok : GOk Gm Gp := ⟨fun f d h => by
  unfold Gp at h
  cases q : Gm f with
  | none => rw [q] at h; cases h
  | some x => rw [q] at h; cases h; rfl⟩
theorem p_beyond : Gp "beyond" = some ⟨3, 3, b_beyond, [.sh, .sh, .sh], [.pl, .pl, .pl], false⟩ := by kernel_rfl
theorem p_part_from : Gp "part_from" = some ⟨2, 7, b_part_from, [.sh, .sh, .ow, .ow, .sh, .sh, .sh], [.pl, .pl], false⟩ := by kernel_rfl
theorem p_parts_of : Gp "parts_of" = some ⟨1, 5, b_parts_of, [.sh, .ow, .ow, .sh, .sh], [.pl], false⟩ := by kernel_rfl
theorem p__law_feed : Gp "_law_feed" = some ⟨1, 1, b__law_feed, [.sh], [.pl], true⟩ := by kernel_rfl
theorem p__law_draw : Gp "_law_draw" = some ⟨2, 5, b__law_draw, [.io, .sh, .sh, .sh, .sh], [.io, .pl], false⟩ := by kernel_rfl
theorem p__law_price : Gp "_law_price" = some ⟨2, 3, b__law_price, [.io, .sh, .sh], [.io, .pl], false⟩ := by kernel_rfl
theorem p__law_web : Gp "_law_web" = some ⟨4, 10, b__law_web, [.io, .sh, .sh, .sh, .sh, .sh, .ow, .sh, .sh, .sh], [.io, .pl, .pl, .pl], false⟩ := by kernel_rfl
theorem p__law_wide : Gp "_law_wide" = some ⟨2, 10, b__law_wide, [.io, .sh, .sh, .ow, .sh, .sh, .sh, .ow, .sh, .sh], [.io, .pl], false⟩ := by kernel_rfl
theorem p__law_parts : Gp "_law_parts" = some ⟨1, 11, b__law_parts, [.sh, .sh, .sh, .sh, .sh, .sh, .sh, .sh, .ow, .sh, .sh], [.pl], false⟩ := by kernel_rfl
theorem p__law_called : Gp "_law_called" = some ⟨2, 9, b__law_called, [.io, .sh, .ow, .sh, .sh, .ow, .sh, .sh, .sh], [.io, .pl], false⟩ := by kernel_rfl
theorem p_law : Gp "law" = some ⟨1, 8, b_law, [.sh, .ow, .sh, .sh, .sh, .sh, .sh, .sh], [.pl], false⟩ := by kernel_rfl
abbrev runq (d : Nat) : Str → List PV → CR := runP Gp gl fuel d
end K04

namespace K04
open PySem Mn Mn.GA Mn.L04
theorem law_q : ∀ ns : List Int, ns.length ≤ 63 → ∃ o ios, runq 60 "law" [.fro (ns.map .int)] = .ok o ios ∧ o.v = .bl true := by
  intro ns _
  have D : ∀ d c, Draw ⟨runP Gp gl fuel (d + 1), sigP Gp, c, gl, fuel⟩ := fun d c => draw_ok p__law_draw
  have P : ∀ d c, Price ⟨runP Gp gl fuel (d + 2), sigP Gp, c, gl, fuel⟩ := fun d c => price_ok p__law_price (D d)
  have By : ∀ d c, Beyond ⟨runP Gp gl fuel (d + 1), sigP Gp, c, gl, fuel⟩ := fun d c => beyond_ok p_beyond
  have Pf : ∀ d c, PartF ⟨runP Gp gl fuel (d + 2), sigP Gp, c, gl, fuel⟩ := fun d c => part_ok (by decide) p_part_from (By d)
  exact law_ok p_law ns (fun c => feed_ok p__law_feed) (D 58) (fun c => web_ok p__law_web (D 57) (P 56)) (fun c => wide_ok p__law_wide (D 57) (P 56)) (fun c => called_ok p__law_called (D 57)) (fun c => parts_ok p_parts_of (Pf 56)) (fun c => lparts_ok p__law_parts)
end K04

namespace K04
open PySem PySem.Spec PyProof.Rows L2 Mn
theorem law_run : ∀ ns : List Int, ns.length ≤ 63 → ∃ mh', run 60 "law" [.ref 0] [.fro (ns.map .int)] = .ok (.bl true) mh' := by
  intro ns hn
  obtain ⟨o, ios, e, ho⟩ := law_q ns hn
  exact law_of_run (fr := false) gok (by kernel_rfl) e ho
end K04
open PySem PySem.W PyProof.Rows
set_option maxHeartbeats 0 in
theorem PySem.Challenge.cw_oddjoins_k04_parts_holds : PySem.Challenge.rw_oddjoins_k04_parts.Holds := by
  w_on; o_law; k_head; (case hw => w_witness2)
  k_fill
  refine Mn.walk_mini (l := PySem.Challenge.rw_oddjoins_k04_parts) (n := 63) (k := 60) (x := "_law_script") (call := K04.run 60) rfl (by decide) rfl ⟨rfl, by decide, by decide⟩ (fun w h Y => PySem.W.kIn_of Y) K04.law_run ?F
  case F =>
    intro w mg fa h KX G hmg
    refine' K04.all_mk KX G hmg ?a0 ?l0 ?c0 ?k0 ?a1 ?l1 ?c1 ?k1 ?a2 ?l2 ?c2 ?k2 ?a3 ?l3 ?c3 ?k3 ?a4 ?l4 ?c4 ?k4 ?a5 ?l5 ?c5 ?k5 ?a6 ?l6 ?c6 ?k6 ?a7 ?l7 ?c7 ?k7 ?a8 ?l8 ?c8 ?k8 ?a9 ?l9 ?c9 ?k9 ?a10 ?l10 ?c10 ?k10 ?z0 ?z1 ?z2 ?z3 ?z4 ?z5 ?z6 ?z7 ?z8 ?z9
    (case a0 => k_is)
    (case l0 => k_is)
    (case c0 => k_is)
    (case k0 => k_is)
    (case a1 => k_is)
    (case l1 => k_is)
    (case c1 => k_is)
    (case k1 => k_is)
    (case a2 => k_is)
    (case l2 => k_is)
    (case c2 => k_is)
    (case k2 => k_is)
    (case a3 => k_is)
    (case l3 => k_is)
    (case c3 => k_is)
    (case k3 => k_is)
    (case a4 => k_is)
    (case l4 => k_is)
    (case c4 => k_is)
    (case k4 => k_is)
    (case a5 => k_is)
    (case l5 => k_is)
    (case c5 => k_is)
    (case k5 => k_is)
    (case a6 => k_is)
    (case l6 => k_is)
    (case c6 => k_is)
    (case k6 => k_is)
    (case a7 => k_is)
    (case l7 => k_is)
    (case c7 => k_is)
    (case k7 => k_is)
    (case a8 => k_is)
    (case l8 => k_is)
    (case c8 => k_is)
    (case k8 => k_is)
    (case a9 => k_is)
    (case l9 => k_is)
    (case c9 => k_is)
    (case k9 => k_is)
    (case a10 => k_is)
    (case l10 => k_is)
    (case c10 => k_is)
    (case k10 => k_is)
    (case z0 => k_is)
    (case z1 => k_is)
    (case z2 => k_is)
    (case z3 => k_is)
    (case z4 => k_is)
    (case z5 => k_is)
    (case z6 => k_is)
    (case z7 => k_is)
    (case z8 => k_is)
    (case z9 => k_is)

