import PyProof.Rows.All
import HandS.ForMost
import HandS.More
import HandS.TupAny
import HandS.TupMul
import HandS.Deep
import HandS.Flow
import HandS.SortInts
import HandS.Zip
import HandS.Style
import HandS.SetFor
import HandS.IsInst
import HandS.RaiseMore
import HandS.Small
import HandS.Conv
import KE.KRevSl
import KE.BitLaws
import PySem.Challenge.RW_oddjoins_k83_most_weighty_sides
set_option Elab.async false
set_option linter.all false
set_option maxRecDepth 100000
noncomputable section
/-! Mini: a small language, its values and its evaluator. -/
namespace Mn
open PySem L2

inductive MV where
  | non | bl (b : Bool) | int (i : Int) | str (s : Str) | tup (xs : List MV) | ref (a : Nat)
  deriving Inhabited
mutual
def MV.eqb : MV → MV → Bool
  | .non, .non => true
  | .bl a, .bl b => a == b
  | .int a, .int b => a == b
  | .str a, .str b => decide (a = b)
  | .tup a, .tup b => MV.eqbs a b
  | .ref a, .ref b => a == b
  | _, _ => false
def MV.eqbs : List MV → List MV → Bool
  | [], [] => true
  | x :: xs, y :: ys => MV.eqb x y && MV.eqbs xs ys
  | _, _ => false
end
mutual
theorem MV.eqb_iff : ∀ a b : MV, MV.eqb a b = true ↔ a = b
  | .non, b => by cases b <;> simp [MV.eqb]
  | .bl a, b => by cases b <;> simp [MV.eqb]
  | .int a, b => by cases b <;> simp [MV.eqb]
  | .str a, b => by cases b <;> simp [MV.eqb]
  | .ref a, b => by cases b <;> simp [MV.eqb]
  | .tup a, b => by cases b <;> simp [MV.eqb, MV.eqbs_iff a]
theorem MV.eqbs_iff : ∀ a b : List MV, MV.eqbs a b = true ↔ a = b
  | [], b => by cases b <;> simp [MV.eqbs]
  | x :: xs, b => by cases b <;> simp [MV.eqbs, MV.eqb_iff x, MV.eqbs_iff xs]
end
instance : DecidableEq MV := fun a b => decidable_of_iff _ (MV.eqb_iff a b)
/-- what lies in the small heap: a list, a list that is only read, a dict -/
inductive MO where
  | lst (xs : List MV) | fro (xs : List MV) | dct (kvs : List (Key × MV))
  deriving DecidableEq
abbrev MH := List MO
inductive R (α : Type) where
  | ok (a : α) (h : MH) | exc (c : Str) (fs : List MV) (h : MH) | bad
def R.bind {α β : Type} : R α → (α → MH → R β) → R β
  | .ok a h, f => f a h
  | .exc c fs h, _ => .exc c fs h
  | .bad, _ => .bad
def R.map {α β : Type} (r : R α) (f : α → β) : R β := r.bind fun a h => .ok (f a) h
abbrev MS' := List (Option MV)

inductive IK where
  | val | rng1 | rng2 | enum | zip | items
  deriving DecidableEq
inductive MT where
  | nm (i : Nat) | tp (ts : List MT)
inductive Bi where
  | len | sum | sorted | tuple | list | int | str | repr | all | any | min | max | abs
  deriving DecidableEq
inductive Me where
  | append | extend | pop | insert | count | index | reverse | get | items | join | split | remove | clear | copy
  deriving DecidableEq
inductive Ty where
  | int | bool | str | tuple | list | dict
  deriving DecidableEq
inductive ME where
  | c (v : MV) | var (i : Nat) | glb (x : Str)
  | tup (es : List ME) | lst (es : List ME)
  | bin (op : Operator) (a b : ME) | neg (a : ME) | not_ (a : ME)
  | cmp (op : CmpOp) (a b : ME) | chain (o1 o2 : CmpOp) (a b c : ME)
  | and_ (a b : ME) | or_ (a b : ME) | ife (t a b : ME)
  | ix (a b : ME) | sl (a : ME) | slL (a lo : ME) | slH (a hi : ME) | slB (a lo hi : ME) | rev (a : ME)
  | call (f : Str) (es : List ME) | blt (b : Bi) (es : List ME) | meth (m : Me) (o : ME) (es : List ME)
  | isi (a : ME) (t : Ty)
  | dsp (es : List ME) | rngL (a b : ME) | rngT (a b : ME)
  | lc (elt : ME) (tg : MT) (ik : IK) (a b : ME) (ifs : List ME) (own : List Nat)
inductive MS where
  | asg (tg : MT) (e : ME) | asgSub (o i e : ME) | expr (e : ME) | ret (e : ME) | retN
  | ite (t : ME) (a b : List MS) | for_ (tg : MT) (ik : IK) (a b : ME) (body : List MS) | whl (t : ME) (body : List MS)
  | pass | brk | cont

def lineM : Nat := 1000000

/-! ### values -/
mutual
/-- the tree of a value; what a reference stands for is told by f -/
def dV (f : Nat → Option PyData) : MV → Option PyData
  | .non => some .none
  | .bl b => some (.bool b)
  | .int i => some (.int i)
  | .str s => some (.str s)
  | .tup xs => (dVs f xs).map .tuple
  | .ref a => f a
def dVs (f : Nat → Option PyData) : List MV → Option (List PyData)
  | [] => some []
  | x :: xs => match dV f x, dVs f xs with
    | some d, some ds => some (d :: ds)
    | _, _ => none
end
def snapR (h : MH) : Nat → Nat → Option PyData
  | 0, _ => none
  | n + 1, a => match h[a]? with
    | some (.lst xs) => (dVs (snapR h n) xs).map .list
    | some (.fro xs) => (dVs (snapR h n) xs).map .list
    | _ => none
def snap (h : MH) (v : MV) : Option PyData := dV (snapR h 6) v
def shp (d : PyData) : Bool := SeqAt.shaped d

mutual
def noRef : MV → Bool
  | .tup xs => noRefs xs
  | .ref _ => false
  | .non => true | .bl _ => true | .int _ => true | .str _ => true
def noRefs : List MV → Bool
  | [] => true
  | x :: xs => noRef x && noRefs xs
end
mutual
def bel (n : Nat) : MV → Bool
  | .tup xs => bels n xs
  | .ref a => decide (a < n)
  | .non => true | .bl _ => true | .int _ => true | .str _ => true
def bels (n : Nat) : List MV → Bool
  | [] => true
  | x :: xs => bel n x && bels n xs
end
def MO.bel (n : Nat) : MO → Bool
  | .lst xs => bels n xs
  | .fro xs => bels n xs
  | .dct kvs => kvs.all fun p => Mn.bel n p.2

/-- a list that may be read -/
def lsts (h : MH) (a : Nat) : Option (List MV) := match h[a]? with
  | some (.lst xs) => some xs
  | some (.fro xs) => some xs
  | _ => none
/-- the items of a list or a tuple -/
def seqs (h : MH) : MV → Option (List MV)
  | .tup xs => some xs
  | .ref a => lsts h a
  | _ => none
def truth (h : MH) : MV → Option Bool
  | .non => some false
  | .bl b => some b
  | .int i => some (i != 0)
  | .str s => if s.length ≤ lineM then some (s.length != 0) else none
  | .tup xs => some (!xs.isEmpty)
  | .ref a => match h[a]? with
    | some (.lst xs) => some (!xs.isEmpty)
    | some (.fro xs) => some (!xs.isEmpty)
    | some (.dct kvs) => some (!kvs.isEmpty)
    | none => none
def newO (o : MO) (h : MH) : R MV := .ok (.ref h.length) (h ++ [o])
def allInts : List MV → Option (List Int)
  | [] => some []
  | .int i :: xs => (allInts xs).map (i :: ·)
  | _ :: _ => none
def allBls : List MV → Option (List Bool)
  | [] => some []
  | .bl i :: xs => (allBls xs).map (i :: ·)
  | _ :: _ => none
def flatM : MV → Bool
  | .tup _ => false
  | .ref _ => false
  | _ => true
def eqF (x y : MV) : Bool := match snap [] x, snap [] y with
  | some d, some e => PyData.eqv d e
  | _, _ => false
def keyOf : MV → Option Key
  | .int i => some (.inl i)
  | .str s => some (.inr s)
  | _ => none
def getK (k : Key) (kvs : List (Key × MV)) : Option MV := (kvs.find? fun kv => decide (kv.1 = k)).map (·.2)
def putK (k : Key) (v : MV) (kvs : List (Key × MV)) : List (Key × MV) :=
  if (kvs.any fun kv => decide (kv.1 = k)) = true then kvs.map (fun kv => if kv.1 = k then (kv.1, v) else kv) else kvs ++ [(k, v)]

section
local instance (priority := 10000) clP (p : Prop) : Decidable p := Classical.propDecidable p
def binM (op : Operator) (x y : MV) (h : MH) : R MV :=
  match op, x, y with
  | .Add, .int i, .int j => .ok (.int (i + j)) h
  | .Add, .str a, .str b => if a.length + b.length ≤ lineM then .ok (.str (a ++ b)) h else .bad
  | .Add, .tup a, .tup b => if a.length + b.length ≤ lineM then .ok (.tup (a ++ b)) h else .bad
  | .Add, .ref a, .ref b => match h[a]?, h[b]? with
    | some (.lst xs), some (.lst ys) => if xs.length + ys.length ≤ lineM then newO (.lst (xs ++ ys)) h else .bad
    | _, _ => .bad
  | .Sub, .int i, .int j => .ok (.int (i - j)) h
  | .Mult, .int i, .int j => if i.natAbs < 2 ^ 64 ∨ j.natAbs < 2 ^ 64 then .ok (.int (i * j)) h else .bad
  | .Mult, .ref a, .int k => match h[a]? with
    | some (.lst xs) => if -(2 ^ 63) ≤ k ∧ k < 2 ^ 63 ∧ xs.length * k.toNat ≤ lineM then newO (.lst (List.replicate k.toNat xs).flatten) h else .bad
    | _ => .bad
  | .Mult, .tup xs, .int k => if 2 ≤ k ∧ k ≤ 1000 ∧ xs.length ≤ 1000 ∧ xs ≠ [] then .ok (.tup (List.replicate k.toNat xs).flatten) h else .bad
  | .FloorDiv, .int i, .int j => if 0 < j ∧ j < 1073741824 then .ok (.int (i / j)) h else .bad
  | .Mod, .int i, .int j => if 0 < j then .ok (.int (i % j)) h else .bad
  | .Pow, .int i, .int j => if 0 ≤ j ∧ j ≤ 1000000 ∧ i.natAbs < 2 ^ 64 then .ok (.int (i ^ j.toNat)) h else .bad
  | .LShift, .int i, .int j => if 0 ≤ j ∧ j ≤ 1000000 ∧ i.natAbs < 2 ^ 64 then .ok (.int (i * 2 ^ j.toNat)) h else .bad
  | .RShift, .int i, .int j => if 0 ≤ j then .ok (.int (i / 2 ^ j.toNat)) h else .bad
  | .BitAnd, .int i, .int j => .ok (.int (Builtin.bitAnd i j)) h
  | .BitOr, .int i, .int j => .ok (.int (Builtin.bitOr i j)) h
  | .BitXor, .int i, .int j => .ok (.int (Builtin.bitXor i j)) h
  | _, _, _ => .bad
end

def eqD (h : MH) (x y : MV) : Option Bool := match snap h x, snap h y with
  | some d, some e => if shp d && shp e then some (PyData.eqv d e) else none
  | _, _ => none
def strOf : MV → Option Str
  | .str s => some s
  | _ => none
def eqM (h : MH) (x y : MV) : Option Bool := match strOf x, strOf y with
  | some a, some b => some (decide (a = b))
  | _, _ => eqD h x y
/-- x in y -/
def inM (h : MH) (x y : MV) : Option Bool := match y with
  | .tup ys => if flatM x && ys.all flatM then some (ys.any fun z => eqF z x) else none
  | .ref a => match h[a]? with
    | some (.dct kvs) => (keyOf x).map fun k => (getK k kvs).isSome
    | _ => match lsts h a with
      | some ys => if flatM x && ys.all flatM then some (ys.any fun z => eqF z x) else
        match snap h x, dVs (snapR h 5) ys with
        | some d, some ds => if shp d && shp (.list ds) then some (ds.any fun z => PyData.eqv z d) else none
        | _, _ => none
      | none => none
  | .str z => match x with
    | .str w => some (!(Builtin.Str.occurrences z w 0 z.length 1).isEmpty)
    | _ => none
  | _ => none
def cmpM (op : CmpOp) (x y : MV) (h : MH) : Option Bool :=
  match op with
  | .Eq => eqM h x y
  | .NotEq => (eqM h x y).map (!·)
  | .Lt => match x, y with
    | .int i, .int j => some (decide (i < j))
    | _, _ => none
  | .LtE => match x, y with
    | .int i, .int j => some (decide (i ≤ j))
    | _, _ => none
  | .Gt => match x, y with
    | .int i, .int j => some (decide (j < i))
    | _, _ => none
  | .GtE => match x, y with
    | .int i, .int j => some (decide (j ≤ i))
    | _, _ => none
  | .In => inM h x y
  | .NotIn => (inM h x y).map (!·)
  | .Is => match y with
    | .non => some (decide (x = .non))
    | _ => none
  | .IsNot => match y with
    | .non => some (!decide (x = .non))
    | _ => none
def ofB (o : Option Bool) (h : MH) : R MV := match o with
  | some b => .ok (.bl b) h
  | none => .bad
def ofO {α : Type} (o : Option α) (h : MH) : R α := match o with
  | some b => .ok b h
  | none => .bad

/-! ### subscripts, slices -/
def ixM (x y : MV) (h : MH) : R MV := match x, y with
  | .tup xs, .int i => ofO (atI xs i) h
  | .ref a, y => match h[a]? with
    | some (.dct kvs) => match keyOf y with
      | some k => ofO (getK k kvs) h
      | none => .bad
    | _ => match lsts h a, y with
      | some xs, .int i => ofO (atI xs i) h
      | _, _ => .bad
  | .str z, .int i => if z.length ≤ lineM then ofO ((atI z.cps.toList i).map fun c => .str ⟨#[c]⟩) h else .bad
  | _, _ => .bad
def cutM (xs : List MV) (lo hi : Option Int) : List MV := (xs.drop (HT.sIx xs.length 0 lo)).take (HT.sIx xs.length xs.length hi - HT.sIx xs.length 0 lo)
def slM (x : MV) (lo hi : Option Int) (h : MH) : R MV := match x with
  | .tup xs => .ok (.tup (cutM xs lo hi)) h
  | .ref a => match lsts h a with
    | some xs => newO (.lst (cutM xs lo hi)) h
    | none => .bad
  | .str z => if z.length ≤ lineM then .ok (.str (cutS z lo hi)) h else .bad
  | _ => .bad
def revM (x : MV) (h : MH) : R MV := match x with
  | .tup xs => .ok (.tup xs.reverse) h
  | .ref a => match lsts h a with
    | some xs => newO (.lst xs.reverse) h
    | none => .bad
  | _ => .bad
def setM (o i v : MV) (h : MH) : Option MH := match o, i with
  | .ref a, i => match h[a]? with
    | some (.lst xs) => match i with
      | .int i => (ixN xs.length i).bind fun j => if j < xs.length then some (h.set a (.lst (xs.set j v))) else none
      | _ => none
    | some (.dct kvs) => (keyOf i).bind fun k => if kvs.length < lineM then some (h.set a (.dct (putK k v kvs))) else none
    | _ => none
  | _, _ => none
def isiM (x : MV) (t : Ty) (h : MH) : Option Bool := match x, t with
  | .non, _ => some false
  | .bl _, .int => some true
  | .bl _, .bool => some true
  | .bl _, _ => some false
  | .int _, t => some (decide (t = .int))
  | .str _, t => some (decide (t = .str))
  | .tup _, t => some (decide (t = .tuple))
  | .ref a, t => match h[a]? with
    | some (.lst _) => some (decide (t = .list))
    | some (.dct _) => some (decide (t = .dict))
    | _ => none

/-! ### built-in functions, methods -/
def reprD (d : PyData) : Option Str := if d.showable = true ∧ d.hasDict = false ∧ d.depth ≤ 60 ∧ d.shown.length ≤ lineM then some d.shown else none
def bltM (b : Bi) (vs : List MV) (h : MH) : R MV := match b, vs with
  | .len, [.str z] => if z.length ≤ lineM then .ok (.int z.length) h else .bad
  | .len, [.tup xs] => .ok (.int xs.length) h
  | .len, [.ref a] => match h[a]? with
    | some (.lst xs) => .ok (.int xs.length) h
    | some (.fro xs) => .ok (.int xs.length) h
    | some (.dct kvs) => .ok (.int kvs.length) h
    | none => .bad
  | .sum, [.ref a] => match (lsts h a).bind allInts with
    | some ns => .ok (.int ns.sum) h
    | none => .bad
  | .all, [.ref a] => match (lsts h a).bind allBls with
    | some ns => .ok (.bl (ns.all id)) h
    | none => .bad
  | .any, [.ref a] => match (lsts h a).bind allBls with
    | some ns => .ok (.bl (ns.any id)) h
    | none => .bad
  | .tuple, [.tup xs] => .ok (.tup xs) h
  | .tuple, [.ref a] => match lsts h a with
    | some xs => .ok (.tup xs) h
    | none => .bad
  | .list, [v] => match seqs h v with
    | some xs => newO (.lst xs) h
    | none => .bad
  | .int, [.int i] => .ok (.int i) h
  | .int, [.bl k] => .ok (.int (if k then 1 else 0)) h
  | .str, [.int i] => if i.natAbs.log2 < 1920 then .ok (.str (toString i)) h else .bad
  | .str, [.str s] => .ok (.str s) h
  | .repr, [v] => match (snap h v).bind reprD with
    | some s => .ok (.str s) h
    | none => .bad
  | .abs, [.int i] => .ok (.int (if i < 0 then -i else i)) h
  | .max, [.int i, .int j] => .ok (.int (if j > i then j else i)) h
  | .min, [.int i, .int j] => .ok (.int (if j < i then j else i)) h
  | .sorted, [.ref a] => match (lsts h a).bind allInts with
    | some ns => newO (.lst ((ns.mergeSort fun x y => decide (x ≤ y)).map .int)) h
    | none => .bad
  | _, _ => .bad
inductive Kd where
  | list | dict | str | tuple
  deriving DecidableEq
def kdM (h : MH) : MV → Option Kd
  | .str _ => some .str
  | .tup _ => some .tuple
  | .ref a => match h[a]? with
    | some (.lst _) => some .list
    | some (.fro _) => some .list
    | some (.dct _) => some .dict
    | none => none
  | _ => none
section
local instance (priority := 10000) clP2 (p : Prop) : Decidable p := Classical.propDecidable p
def methM (m : Me) (kd : Kd) (o : MV) (vs : List MV) (h : MH) : R MV := match o with
  | .ref a => match h[a]?, kd with
    | some (.lst xs), .list => match m, vs with
      | .append, [y] => if xs.length < lineM then .ok .non (h.set a (.lst (xs ++ [y]))) else .bad
      | .extend, [.ref b] => match h[b]? with
        | some (.lst ys) => if xs.length + ys.length ≤ lineM then .ok .non (h.set a (.lst (xs ++ ys))) else .bad
        | _ => .bad
      | .pop, [] => match xs[xs.length - 1]? with
        | some y => .ok y (h.set a (.lst xs.dropLast))
        | none => .bad
      | .pop, [.int i] => match (if 0 ≤ i ∧ i < 2 ^ 62 then xs[i.toNat]? else none) with
        | some y => .ok y (h.set a (.lst (xs.eraseIdx i.toNat)))
        | none => .bad
      | .insert, [.int i, y] => if xs.length < lineM ∧ 0 ≤ i ∧ i < 2 ^ 62 then .ok .non (h.set a (.lst (xs.take i.toNat ++ [y] ++ xs.drop i.toNat))) else .bad
      | .reverse, [] => .ok .non (h.set a (.lst xs.reverse))
      | .clear, [] => .ok .non (h.set a (.lst []))
      | _, _ => .bad
    | some (.dct kvs), .dict => match m, vs with
      | .get, [k] => match keyOf k with
        | some k => .ok ((getK k kvs).getD .non) h
        | none => .bad
      | .get, [k, d] => match keyOf k with
        | some k => .ok ((getK k kvs).getD d) h
        | none => .bad
      | _, _ => .bad
    | _, _ => .bad
  | _ => .bad

end
/-! ### what a loop walks -/
inductive It where
  | fix (xs : List MV) | live (a : Nat) | enumF (xs : List MV) | enumL (a : Nat) | zipFF (xs ys : List MV) | zipLL (a b : Nat)
def enumI (xs : List MV) : List MV := xs.mapIdx fun i x => .tup [.int i, x]
def zipI (xs ys : List MV) : List MV := xs.zipWith (fun x y => .tup [x, y]) ys
def It.items (it : It) (h : MH) : Option (List MV) := match it with
  | .fix xs => some xs
  | .live a => lsts h a
  | .enumF xs => some (enumI xs)
  | .enumL a => (lsts h a).map enumI
  | .zipFF xs ys => some (zipI xs ys)
  | .zipLL a b => match lsts h a, lsts h b with
    | some xs, some ys => some (zipI xs ys)
    | _, _ => none
def rngI (lo : Int) (n : Nat) : List MV := (List.range n).map fun k => .int (lo + (k : Nat))
def pairUp : List MV → Option (List (Key × MV))
  | [] => some []
  | x :: y :: r => match keyOf x, pairUp r with
    | some k, some ps => some ((k, y) :: ps)
    | _, _ => none
  | _ => none
section
local instance (priority := 10000) clP3 (p : Prop) : Decidable p := Classical.propDecidable p
def rngM (x y : MV) : Option (List MV) := match x, y with
  | .int i, .int j => if -(2 ^ 62) ≤ i ∧ i < 2 ^ 62 ∧ -(2 ^ 62) ≤ j ∧ j < 2 ^ 62 ∧ (j - i).toNat ≤ lineM then some (rngI i (j - i).toNat) else none
  | _, _ => none
def itM (k : IK) (x y : MV) (h : MH) : Option It := match k, x, y with
  | .val, .tup xs, _ => some (.fix xs)
  | .val, .ref a, _ => (lsts h a).map fun _ => .live a
  | .rng1, .int j, _ => if -(2 ^ 62) ≤ j ∧ j < 2 ^ 62 then some (.fix (rngI 0 j.toNat)) else none
  | .rng2, .int i, .int j => if (-(2 ^ 62) ≤ i ∧ i < 2 ^ 62) ∧ (-(2 ^ 62) ≤ j ∧ j < 2 ^ 62) then some (.fix (rngI i (j - i).toNat)) else none
  | .enum, .tup xs, _ => some (.enumF xs)
  | .enum, .ref a, _ => (lsts h a).map fun _ => .enumL a
  | .zip, .tup xs, .tup ys => some (.zipFF xs ys)
  | .zip, .ref a, .ref b => match lsts h a, lsts h b with
    | some _, some _ => some (.zipLL a b)
    | _, _ => none
  | _, _, _ => none
end
mutual
def asgT : MT → MV → MS' → Option MS'
  | .nm i, v, σ => some (σ.set i (some v))
  | .tp ts, .tup xs, σ => if xs.length = ts.length then asgTs ts xs σ else none
  | .tp _, _, _ => none
def asgTs : List MT → List MV → MS' → Option MS'
  | [], _, σ => some σ
  | t :: ts, x :: xs, σ => (asgT t x σ).bind fun σ => asgTs ts xs σ
  | _ :: _, [], _ => none
end
def wipeM (σ : MS') : List Nat → MS'
  | [] => σ
  | v :: vs => (wipeM σ vs).set v none
mutual
def MT.slots : MT → List Nat
  | .nm i => [i]
  | .tp ts => MT.slotss ts
def MT.slotss : List MT → List Nat
  | [] => []
  | t :: ts => MT.slots t ++ MT.slotss ts
end
/-- the turn's item: n turns are left, i are behind -/
def turnI (it : It) (h : MH) (i n : Nat) : Option MV := (it.items h).bind fun xs => if xs.length = i + n then xs[i]? else none
def doneI (it : It) (h : MH) (i : Nat) : Bool := match it.items h with
  | some xs => xs.length == i
  | none => false
def compGo (it : It) (step : MV → MH → R (Option MV)) : Nat → Nat → List MV → MH → R (List MV)
  | 0, i, acc, h => if doneI it h i then .ok acc h else .bad
  | n + 1, i, acc, h => match turnI it h i (n + 1) with
    | some v => (step v h).bind fun
      | none, h => compGo it step n (i + 1) acc h
      | some y, h => if acc.length < lineM then compGo it step n (i + 1) (acc ++ [y]) h else .bad
    | none => .bad
def lcStep (a : Option MS') (ts : MS' → MH → R Bool) (el : MS' → MH → R MV) (h : MH) : R (Option MV) := match a with
  | some σ => (ts σ h).bind fun
    | true, h => (el σ h).bind fun y h => .ok (some y) h
    | false, h => .ok none h
  | none => .bad
inductive Fl where
  | nx (σ : MS') | ret (v : MV) | brk (σ : MS') | cont (σ : MS')
def forGo (it : It) (step : MV → MS' → MH → R Fl) : Nat → Nat → MS' → MH → R Fl
  | 0, i, σ, h => if doneI it h i then .ok (.nx σ) h else .bad
  | n + 1, i, σ, h => match turnI it h i (n + 1) with
    | some v => (step v σ h).bind fun
      | .nx σ, h => forGo it step n (i + 1) σ h
      | .cont σ, h => forGo it step n (i + 1) σ h
      | .brk σ, h => .ok (.nx σ) h
      | .ret v, h => .ok (.ret v) h
    | none => .bad
def forStep (a : Option MS') (b : MS' → MH → R Fl) (h : MH) : R Fl := match a with
  | some σ => b σ h
  | none => .bad
def whlGo (test : MS' → MH → R MV) (step : MS' → MH → R Fl) : Nat → MS' → MH → R Fl
  | 0, _, _ => .bad
  | n + 1, σ, h => (test σ h).bind fun v h => match truth h v with
    | some true => (step σ h).bind fun
      | .nx σ, h => whlGo test step n σ h
      | .cont σ, h => whlGo test step n σ h
      | .brk σ, h => .ok (.nx σ) h
      | .ret v, h => .ok (.ret v) h
    | some false => .ok (.nx σ) h
    | none => .bad

structure Cm where
  call : Str → List MV → MH → R MV
  gl : Str → Option MV
  fuel : Nat

mutual
def evE (X : Cm) : ME → MS' → MH → R MV
  | .c v, _, h => .ok v h
  | .var i, σ, h => match σ[i]? with
    | some (some v) => .ok v h
    | _ => .bad
  | .glb x, _, h => ofO (X.gl x) h
  | .tup es, σ, h => (evEs X es σ h).bind fun vs h => .ok (.tup vs) h
  | .lst es, σ, h => (evEs X es σ h).bind fun vs h => newO (.lst vs) h
  | .bin op a b, σ, h => (evE X a σ h).bind fun x h => (evE X b σ h).bind fun y h => binM op x y h
  | .neg a, σ, h => (evE X a σ h).bind fun
    | .int i, h => .ok (.int (-i)) h
    | _, _ => .bad
  | .not_ a, σ, h => (evE X a σ h).bind fun x h => match truth h x with
    | some b => .ok (.bl (!b)) h
    | none => .bad
  | .cmp op a b, σ, h => (evE X a σ h).bind fun x h => (evE X b σ h).bind fun y h => ofB (cmpM op x y h) h
  | .chain o1 o2 a b c, σ, h => (evE X a σ h).bind fun x h => (evE X b σ h).bind fun y h => match cmpM o1 x y h with
    | some true => (evE X c σ h).bind fun z h => ofB (cmpM o2 y z h) h
    | some false => .ok (.bl false) h
    | none => .bad
  | .and_ a b, σ, h => (evE X a σ h).bind fun x h => match truth h x with
    | some true => evE X b σ h
    | some false => .ok x h
    | none => .bad
  | .or_ a b, σ, h => (evE X a σ h).bind fun x h => match truth h x with
    | some true => .ok x h
    | some false => evE X b σ h
    | none => .bad
  | .ife t a b, σ, h => (evE X t σ h).bind fun x h => match truth h x with
    | some true => evE X a σ h
    | some false => evE X b σ h
    | none => .bad
  | .ix a b, σ, h => (evE X a σ h).bind fun x h => (evE X b σ h).bind fun y h => ixM x y h
  | .sl a, σ, h => (evE X a σ h).bind fun x h => slM x none none h
  | .slL a lo, σ, h => (evE X a σ h).bind fun x h => (evE X lo σ h).bind fun
    | .int i, h => slM x (some i) none h
    | _, _ => .bad
  | .slH a hi, σ, h => (evE X a σ h).bind fun x h => (evE X hi σ h).bind fun
    | .int i, h => slM x none (some i) h
    | _, _ => .bad
  | .slB a lo hi, σ, h => (evE X a σ h).bind fun x h => (evE X lo σ h).bind fun
    | .int i, h => (evE X hi σ h).bind fun
      | .int j, h => slM x (some i) (some j) h
      | _, _ => .bad
    | _, _ => .bad
  | .rev a, σ, h => (evE X a σ h).bind fun x h => revM x h
  | .call f es, σ, h => (evEs X es σ h).bind fun vs h => X.call f vs h
  | .blt b es, σ, h => (evEs X es σ h).bind fun vs h => bltM b vs h
  | .meth m o es, σ, h => (evE X o σ h).bind fun x h => match kdM h x with
    | some kd => (evEs X es σ h).bind fun vs h => methM m kd x vs h
    | none => .bad
  | .isi a t, σ, h => (evE X a σ h).bind fun x h => ofB (isiM x t h) h
  | .dsp es, σ, h => (evEs X es σ h).bind fun vs h => match pairUp vs with
    | some ps => newO (.dct (ps.foldl (fun acc kv => putK kv.1 kv.2 acc) [])) h
    | none => .bad
  | .rngL a b, σ, h => (evE X a σ h).bind fun x h => (evE X b σ h).bind fun y h => match rngM x y with
    | some xs => newO (.lst xs) h
    | none => .bad
  | .rngT a b, σ, h => (evE X a σ h).bind fun x h => (evE X b σ h).bind fun y h => match rngM x y with
    | some xs => .ok (.tup xs) h
    | none => .bad
  | .lc elt tg ik a b ifs own, σ, h => (evE X a σ h).bind fun x h => (evE X b σ h).bind fun y h => match itM ik x y h with
    | some it => match it.items h with
      | some xs => (compGo it (fun v h => lcStep (asgT tg v (wipeM σ own)) (fun σ h => evTs X ifs σ h) (fun σ h => evE X elt σ h) h) xs.length 0 [] h).bind fun vs h => newO (.lst vs) h
      | none => .bad
    | none => .bad
def evEs (X : Cm) : List ME → MS' → MH → R (List MV)
  | [], _, h => .ok [] h
  | e :: es, σ, h => (evE X e σ h).bind fun v h => (evEs X es σ h).bind fun vs h => .ok (v :: vs) h
def evTs (X : Cm) : List ME → MS' → MH → R Bool
  | [], _, h => .ok true h
  | e :: es, σ, h => (evE X e σ h).bind fun v h => match truth h v with
    | some true => evTs X es σ h
    | some false => .ok false h
    | none => .bad
end
mutual
def evS (X : Cm) : MS → MS' → MH → R Fl
  | .asg tg e, σ, h => (evE X e σ h).bind fun v h => ofO ((asgT tg v σ).map .nx) h
  | .asgSub o i e, σ, h => (evE X e σ h).bind fun v h => (evE X o σ h).bind fun x h => (evE X i σ h).bind fun y h => match setM x y v h with
    | some h => .ok (.nx σ) h
    | none => .bad
  | .expr e, σ, h => (evE X e σ h).bind fun _ h => .ok (.nx σ) h
  | .ret e, σ, h => (evE X e σ h).bind fun v h => .ok (.ret v) h
  | .retN, σ, h => .ok (.ret .non) h
  | .ite t a b, σ, h => (evE X t σ h).bind fun v h => match truth h v with
    | some true => evSs X a σ h
    | some false => evSs X b σ h
    | none => .bad
  | .for_ tg ik a b body, σ, h => (evE X a σ h).bind fun x h => (evE X b σ h).bind fun y h => match itM ik x y h with
    | some it => match it.items h with
      | some xs => forGo it (fun v σ h => forStep (asgT tg v σ) (fun σ h => evSs X body σ h) h) xs.length 0 σ h
      | none => .bad
    | none => .bad
  | .whl t body, σ, h => whlGo (fun σ h => evE X t σ h) (fun σ h => evSs X body σ h) X.fuel σ h
  | .pass, σ, h => .ok (.nx σ) h
  | .brk, σ, h => .ok (.brk σ) h
  | .cont, σ, h => .ok (.cont σ) h
def evSs (X : Cm) : List MS → MS' → MH → R Fl
  | [], σ, h => .ok (.nx σ) h
  | s :: ss, σ, h => (evS X s σ h).bind fun
    | .nx σ, h => evSs X ss σ h
    | f, h => .ok f h
end

/-! ### functions -/
structure FD where
  np : Nat
  nl : Nat
  body : List MS
/-- what stood ahead of the call may be kept as it is -/
def keptOk (h0 h : MH) : Bool := (List.range h0.length).all fun i => decide (h[i]? = h0[i]?) || match h[i]? with
  | some o => o.bel h0.length
  | none => false
def trimM (h0 : MH) (v : MV) (h : MH) : R MV :=
  if h0.length ≤ h.length && keptOk h0 h then
    if noRef v then .ok v (h.take h0.length)
    else match v with
      | .ref a => if h0.length ≤ a then match h[a]? with
          | some (.lst xs) => if noRefs xs then .ok (.ref h0.length) (h.take h0.length ++ [.lst xs]) else .ok v h
          | _ => .ok v h
        else .ok v h
      | _ => .ok v h
  else .ok v h
def finM (h0 : MH) (r : R Fl) : R MV := match r with
  | .ok (.ret v) h => trimM h0 v h
  | .ok (.nx _) h => trimM h0 .non h
  | .exc c fs h => .exc c fs h
  | _ => .bad
def runF (Γ : Str → Option FD) (gl : Str → Option MV) (W : Nat) : Nat → Str → List MV → MH → R MV
  | 0, _, _, _ => .bad
  | d + 1, f, vs, h => match Γ f with
    | some fd => if vs.length = fd.np then finM h (evSs ⟨runF Γ gl W d, gl, W⟩ fd.body (vs.map some ++ List.replicate (fd.nl - fd.np) none) h) else .bad
    | none => .bad
end Mn

set_option maxHeartbeats 2000000
/-! Rep: how small values stand for the layer's values; steps of the abstract heap. -/
namespace Mn
open PySem PySem.Spec PyProof.Rows L2

section
variable (K : PySem.W.Frag) (ρ : List Addr) (H : Hp)
mutual
inductive Rep : MV → V → Prop
  | non : Rep .non .non
  | bl (b : Bool) : Rep (.bl b) (.bl b)
  | int (i : Int) : Rep (.int i) (.int i)
  | str (s : Str) : Rep (.str s) (.str s)
  | tup {xs : List MV} {p : Addr} {vs : List V} : SqT K H p vs → Reps xs vs → Rep (.tup xs) (.ref p)
  | ref {a : Nat} {p : Addr} : ρ[a]? = some p → Rep (.ref a) (.ref p)
inductive Reps : List MV → List V → Prop
  | nil : Reps [] []
  | cons {x : MV} {v : V} {xs : List MV} {vs : List V} : Rep x v → Reps xs vs → Reps (x :: xs) (v :: vs)
end
inductive KReps : List (Key × MV) → List (Key × V) → Prop
  | nil : KReps [] []
  | cons {k : Key} {x : MV} {v : V} {xs : List (Key × MV)} {vs : List (Key × V)} : Rep K ρ H x v → KReps xs vs → KReps ((k, x) :: xs) ((k, v) :: vs)
/-- a list that is only read -/
def FzL (K : PySem.W.Frag) (H : Hp) (p : Addr) (vs : List V) : Prop := (∃ o, H p = some (.frz o (.lst vs))) ∨ SqL K (fun _ => none) p vs
def RepO : MO → Addr → Prop
  | .lst xs, p => ∃ vs, H p = some (.lst vs) ∧ Reps K ρ H xs vs
  | .fro xs, p => ∃ vs, FzL K H p vs ∧ Reps K ρ H xs vs
  | .dct kvs, p => ∃ ws, H p = some (.dK ws) ∧ KReps K ρ H kvs ws
end
theorem FzL.seq {K : PySem.W.Frag} {H : Hp} {p : Addr} {vs : List V} (h : FzL K H p vs) : SqL K H p vs := by
  rcases h with ⟨o, h⟩ | h
  · exact .inl (.inr ⟨o, h⟩)
  · rcases h with h | h
    · rcases h with h | ⟨_, h⟩ <;> cases h
    · exact .inr h
theorem FzL.at {K : PySem.W.Frag} {H H' : Hp} {p : Addr} {vs : List V} (h : FzL K H p vs) (k : ∀ o u, H p = some (.frz o u) → H' p = some (.frz o u)) : FzL K H' p vs := by
  rcases h with ⟨o, h⟩ | h
  · exact .inl ⟨o, k _ _ h⟩
  · exact .inr h
def MO.mut : MO → Bool
  | .fro _ => false
  | _ => true
structure RepH (K : PySem.W.Frag) (ρ : List Addr) (mh : MH) (H : Hp) : Prop where
  len : ρ.length = mh.length
  inj : ∀ (a b : Nat) (p : Addr) (oa ob : MO), ρ[a]? = some p → ρ[b]? = some p → mh[a]? = some oa → mh[b]? = some ob → oa.mut = true → ob.mut = true → a = b
  obj : ∀ (a : Nat) (p : Addr) (o : MO), ρ[a]? = some p → mh[a]? = some o → RepO K ρ H o p
def Mu (ρ : List Addr) (mh : MH) (p : Addr) : Prop := ∃ (a : Nat) (o : MO), ρ[a]? = some p ∧ mh[a]? = some o ∧ o.mut = true
structure Stp (ρ : List Addr) (mh : MH) (H : Hp) (ρ' : List Addr) (mh' : MH) (H' : Hp) : Prop where
  pre : ρ <+: ρ'
  new : ∀ p, Mu ρ' mh' p → Mu ρ mh p ∨ H p = none
  frm : ∀ p o, ¬ Mu ρ mh p → H p = some o → H' p = some o
theorem Stp.refl {ρ : List Addr} {mh : MH} {H : Hp} : Stp ρ mh H ρ mh H := ⟨List.prefix_refl _, fun _ h => .inl h, fun _ _ _ h => h⟩
theorem Stp.trans {ρ ρ1 ρ2 : List Addr} {mh m1 m2 : MH} {H H1 H2 : Hp} (a : Stp ρ mh H ρ1 m1 H1) (b : Stp ρ1 m1 H1 ρ2 m2 H2) : Stp ρ mh H ρ2 m2 H2 := by
  refine ⟨a.pre.trans b.pre, fun p h => ?_, fun p o n h => ?_⟩
  · rcases b.new p h with h | h
    · exact a.new p h
    · by_cases m : Mu ρ mh p
      · exact .inl m
      · cases e : H p with
        | none => exact .inr rfl
        | some o => rw [a.frm p o m e] at h; cases h
  · refine b.frm p o (fun m => ?_) (a.frm p o n h)
    rcases a.new p m with z | z
    · exact n z
    · rw [h] at z; cases z
theorem RepH.mu {K : PySem.W.Frag} {ρ : List Addr} {mh : MH} {H : Hp} (R : RepH K ρ mh H) {p : Addr} (m : Mu ρ mh p) : (∃ vs, H p = some (.lst vs)) ∨ ∃ ws, H p = some (.dK ws) := by
  obtain ⟨a, o, e1, e2, e3⟩ := m
  have h := R.obj a p o e1 e2
  cases o with
  | lst xs => obtain ⟨vs, e, _⟩ := h; exact .inl ⟨vs, e⟩
  | fro xs => cases e3
  | dct kvs => obtain ⟨vs, e, _⟩ := h; exact .inr ⟨vs, e⟩
theorem prefix_get {α : Type} {l l' : List α} (h : l <+: l') {i : Nat} {x : α} (e : l[i]? = some x) : l'[i]? = some x := by
  obtain ⟨t, rfl⟩ := h
  have hl : i < l.length := (List.getElem?_eq_some_iff.mp e).1
  rw [List.getElem?_append_left hl]; exact e
theorem SqT.stp {K : PySem.W.Frag} {ρ ρ' : List Addr} {mh mh' : MH} {H H' : Hp} (R : RepH K ρ mh H) (S : Stp ρ mh H ρ' mh' H') {p : Addr} {vs : List V} (h : SqT K H p vs) : SqT K H' p vs := by
  rcases h with h | h
  · refine .inl ?_
    have nm : ¬ Mu ρ mh p := fun m => by
      rcases R.mu m with ⟨xs, e⟩ | ⟨xs, e⟩ <;> (rcases h with h | ⟨o, h⟩ <;> (rw [e] at h; cases h))
    rcases h with h | ⟨o, h⟩
    · exact .inl (S.frm p _ nm h)
    · exact .inr ⟨o, S.frm p _ nm h⟩
  · exact .inr h
section
variable {K : PySem.W.Frag} {ρ ρ' : List Addr} {mh mh' : MH} {H H' : Hp}
mutual
theorem Rep.mono' (hp : ρ <+: ρ') (ht : ∀ p vs, SqT K H p vs → SqT K H' p vs) : ∀ (x : MV) (v : V), Rep K ρ H x v → Rep K ρ' H' x v
  | .non, _, h => by cases h; exact .non
  | .bl _, _, h => by cases h; exact .bl _
  | .int _, _, h => by cases h; exact .int _
  | .str _, _, h => by cases h; exact .str _
  | .ref a, _, h => by cases h with | ref e => exact .ref (prefix_get hp e)
  | .tup xs, _, h => by cases h with | tup s r => exact .tup (ht _ _ s) (Reps.mono' hp ht xs _ r)
theorem Reps.mono' (hp : ρ <+: ρ') (ht : ∀ p vs, SqT K H p vs → SqT K H' p vs) : ∀ (xs : List MV) (vs : List V), Reps K ρ H xs vs → Reps K ρ' H' xs vs
  | [], _, h => by cases h; exact .nil
  | x :: xs, _, h => by cases h with | cons a b => exact .cons (Rep.mono' hp ht x _ a) (Reps.mono' hp ht xs _ b)
end
theorem Rep.stp (R : RepH K ρ mh H) (S : Stp ρ mh H ρ' mh' H') {x : MV} {v : V} (h : Rep K ρ H x v) : Rep K ρ' H' x v := Rep.mono' S.pre (fun _ _ q => Mn.SqT.stp R S q) x v h
theorem Reps.stp (R : RepH K ρ mh H) (S : Stp ρ mh H ρ' mh' H') {x : List MV} {v : List V} (h : Reps K ρ H x v) : Reps K ρ' H' x v := Reps.mono' S.pre (fun _ _ q => Mn.SqT.stp R S q) x v h
theorem KReps.mono' (hp : ρ <+: ρ') (ht : ∀ p vs, SqT K H p vs → SqT K H' p vs) {x : List (Key × MV)} {v : List (Key × V)} (h : KReps K ρ H x v) : KReps K ρ' H' x v := by
  induction h with
  | nil => exact .nil
  | cons a _ ih => exact .cons (Rep.mono' hp ht _ _ a) ih
theorem Reps.length {xs : List MV} {vs : List V} (h : Reps K ρ H xs vs) : xs.length = vs.length := by
  induction xs generalizing vs with
  | nil => cases h; rfl
  | cons x xs ih => cases h with | cons a b => simp [ih b]
theorem Reps.get {xs : List MV} {vs : List V} (h : Reps K ρ H xs vs) {i : Nat} {x : MV} (e : xs[i]? = some x) : ∃ v, vs[i]? = some v ∧ Rep K ρ H x v := by
  induction xs generalizing vs i with
  | nil => simp at e
  | cons y xs ih =>
    cases h with
    | cons a b =>
      cases i with
      | zero => simp at e; subst e; exact ⟨_, rfl, a⟩
      | succ i => simpa using ih b (by simpa using e)
theorem Reps.set {xs : List MV} {vs : List V} (h : Reps K ρ H xs vs) {x : MV} {v : V} (r : Rep K ρ H x v) (i : Nat) : Reps K ρ H (xs.set i x) (vs.set i v) := by
  induction xs generalizing vs i with
  | nil => cases h; exact .nil
  | cons y xs ih =>
    cases h with
    | cons a b =>
      cases i with
      | zero => exact .cons r b
      | succ i => exact .cons a (ih b i)
theorem Reps.append {xs ys : List MV} {vs ws : List V} (h : Reps K ρ H xs vs) (g : Reps K ρ H ys ws) : Reps K ρ H (xs ++ ys) (vs ++ ws) := by
  induction xs generalizing vs with
  | nil => cases h; exact g
  | cons y xs ih => cases h with | cons a b => exact .cons a (ih b)
theorem Reps.take {xs : List MV} {vs : List V} (h : Reps K ρ H xs vs) (n : Nat) : Reps K ρ H (xs.take n) (vs.take n) := by
  induction xs generalizing vs n with
  | nil => cases h; simp; exact .nil
  | cons y xs ih =>
    cases h with
    | cons a b =>
      cases n with
      | zero => exact .nil
      | succ i => exact .cons a (ih b i)
theorem Reps.drop {xs : List MV} {vs : List V} (h : Reps K ρ H xs vs) (n : Nat) : Reps K ρ H (xs.drop n) (vs.drop n) := by
  induction xs generalizing vs n with
  | nil => cases h; simp; exact .nil
  | cons y xs ih =>
    cases h with
    | cons a b =>
      cases n with
      | zero => exact .cons a b
      | succ i => exact ih b i
theorem Reps.one {x : MV} {v : V} (h : Rep K ρ H x v) : Reps K ρ H [x] [v] := .cons h .nil
theorem Reps.reverse {xs : List MV} {vs : List V} (h : Reps K ρ H xs vs) : Reps K ρ H xs.reverse vs.reverse := by
  induction xs generalizing vs with
  | nil => cases h; exact .nil
  | cons y xs ih => cases h with | cons a b => simp only [List.reverse_cons]; exact (ih b).append (.one a)
theorem Reps.flatRep {xs : List MV} {vs : List V} (h : Reps K ρ H xs vs) (n : Nat) : Reps K ρ H (List.replicate n xs).flatten (List.replicate n vs).flatten := by
  induction n with
  | zero => exact .nil
  | succ n ih => simp only [List.replicate_succ, List.flatten_cons]; exact h.append ih
theorem Reps.eraseIdx {xs : List MV} {vs : List V} (h : Reps K ρ H xs vs) (i : Nat) : Reps K ρ H (xs.eraseIdx i) (vs.eraseIdx i) := by
  rw [List.eraseIdx_eq_take_drop_succ, List.eraseIdx_eq_take_drop_succ]
  exact (h.take _).append (h.drop _)
theorem Reps.dropLast {xs : List MV} {vs : List V} (h : Reps K ρ H xs vs) : Reps K ρ H xs.dropLast vs.dropLast := by
  rw [List.dropLast_eq_take, List.dropLast_eq_take, h.length]; exact h.take _
theorem KReps.length {xs : List (Key × MV)} {vs : List (Key × V)} (h : KReps K ρ H xs vs) : xs.length = vs.length := by
  induction h with
  | nil => rfl
  | cons _ _ ih => simp [ih]
/-- ints read off -/
theorem Reps.ints : ∀ {xs : List MV} {vs : List V} {ns : List Int}, Reps K ρ H xs vs → allInts xs = some ns → vs = ns.map V.int
  | [], _, _, h, e => by cases h; simp [allInts] at e; subst e; rfl
  | x :: xs, _, _, h, e => by
    cases h with
    | cons a b =>
      cases a with
      | int i =>
        simp only [allInts] at e
        cases q : allInts xs with
        | none => rw [q] at e; cases e
        | some ms => rw [q] at e; simp at e; subst e; simp [Reps.ints b q]
      | _ => simp [allInts] at e
theorem Reps.bls : ∀ {xs : List MV} {vs : List V} {ns : List Bool}, Reps K ρ H xs vs → allBls xs = some ns → vs = ns.map V.bl
  | [], _, _, h, e => by cases h; simp [allBls] at e; subst e; rfl
  | x :: xs, _, _, h, e => by
    cases h with
    | cons a b =>
      cases a with
      | bl i =>
        simp only [allBls] at e
        cases q : allBls xs with
        | none => rw [q] at e; cases e
        | some ms => rw [q] at e; simp at e; subst e; simp [Reps.bls b q]
      | _ => simp [allBls] at e
theorem Reps.ofInts (ns : List Int) : Reps K ρ H (ns.map .int) (ns.map V.int) := by
  induction ns with
  | nil => exact .nil
  | cons n ns ih => exact .cons (.int n) ih
end
section
variable {K : PySem.W.Frag} {ρ : List Addr} {mh : MH} {H : Hp}
theorem RepH.get (R : RepH K ρ mh H) {a : Nat} {o : MO} (e : mh[a]? = some o) : ∃ p, ρ[a]? = some p ∧ RepO K ρ H o p := by
  have hl : a < mh.length := (List.getElem?_eq_some_iff.mp e).1
  have hl' : a < ρ.length := by rw [R.len]; exact hl
  exact ⟨ρ[a], List.getElem?_eq_getElem hl', R.obj a _ o (List.getElem?_eq_getElem hl') e⟩
theorem RepH.lst (R : RepH K ρ mh H) {a : Nat} {xs : List MV} {p : Addr} (h : ρ[a]? = some p) (e : mh[a]? = some (.lst xs)) : ∃ vs, H p = some (.lst vs) ∧ Reps K ρ H xs vs := R.obj a p _ h e
theorem RepH.dct (R : RepH K ρ mh H) {a : Nat} {xs : List (Key × MV)} {p : Addr} (h : ρ[a]? = some p) (e : mh[a]? = some (.dct xs)) : ∃ vs, H p = some (.dK vs) ∧ KReps K ρ H xs vs := R.obj a p _ h e
theorem RepH.lsts (R : RepH K ρ mh H) {a : Nat} {xs : List MV} {p : Addr} (h : ρ[a]? = some p) (e : lsts mh a = some xs) : ∃ vs, SqL K H p vs ∧ Reps K ρ H xs vs := by
  unfold Mn.lsts at e
  split at e
  · cases e
    obtain ⟨vs, h1, h2⟩ := R.lst h (by assumption)
    exact ⟨vs, .of h1, h2⟩
  · cases e
    obtain ⟨vs, h1, h2⟩ := R.obj a p _ h (by assumption)
    exact ⟨vs, h1.seq, h2⟩
  · cases e
/-- a new object -/
theorem RepH.push (R : RepH K ρ mh H) {p : Addr} {o : MO} {ho : HO} (hn : H p = none) (hm : o.mut = true) (new : ∀ H', (∀ q, q ≠ p → H' q = H q) → H' p = some ho → RepO K (ρ ++ [p]) H' o p) :
    RepH K (ρ ++ [p]) (mh ++ [o]) (upd H p ho) ∧ Stp ρ mh H (ρ ++ [p]) (mh ++ [o]) (upd H p ho) := by
  have muN : ∀ q, Mu ρ mh q → q ≠ p := fun q m e => by
    subst e
    rcases R.mu m with ⟨_, z⟩ | ⟨_, z⟩ <;> (rw [hn] at z; cases z)
  have ht : ∀ q vs, SqT K H q vs → SqT K (upd H p ho) q vs := fun q vs h => by
    rcases h with h | h
    · refine .inl ?_
      rcases h with h | ⟨u, h⟩
      · exact .inl (by rw [upd_ne (ne_of_none h hn)]; exact h)
      · exact .inr ⟨u, by rw [upd_ne (ne_of_none h hn)]; exact h⟩
    · exact .inr h
  have hl : ∀ q vs, FzL K H q vs → FzL K (upd H p ho) q vs := fun q vs h => h.at fun o u e => by rw [upd_ne (ne_of_none e hn)]; exact e
  have pre : ρ <+: ρ ++ [p] := List.prefix_append _ _
  have split : ∀ (a : Nat) (q : Addr) (u : MO), (ρ ++ [p])[a]? = some q → (mh ++ [o])[a]? = some u → (ρ[a]? = some q ∧ mh[a]? = some u) ∨ (a = ρ.length ∧ q = p ∧ u = o) := fun a q u e1 e2 => by
    by_cases h : a < ρ.length
    · rw [List.getElem?_append_left h] at e1
      rw [List.getElem?_append_left (by rw [← R.len]; exact h)] at e2
      exact .inl ⟨e1, e2⟩
    · have h1 : a < (ρ ++ [p]).length := (List.getElem?_eq_some_iff.mp e1).1
      have h2 : a = ρ.length := by simp at h1; omega
      subst h2
      simp at e1
      rw [R.len] at e2
      simp at e2
      exact .inr ⟨rfl, e1.symm, e2.symm⟩
  refine ⟨⟨by simp [R.len], fun a b q oa ob e1 e2 e3 e4 m1 m2 => ?_, fun a q u e1 e2 => ?_⟩, pre, fun q m => ?_, fun q u nm e => by rw [upd_ne (ne_of_none e hn)]; exact e⟩
  · rcases split a q oa e1 e3 with ⟨h1, h2⟩ | ⟨rfl, rfl, rfl⟩
    · rcases split b q ob e2 e4 with ⟨h3, h4⟩ | ⟨rfl, rfl, rfl⟩
      · exact R.inj a b q oa ob h1 h3 h2 h4 m1 m2
      · exact absurd rfl (muN q ⟨a, oa, h1, h2, m1⟩)
    · rcases split b q ob e2 e4 with ⟨h3, h4⟩ | ⟨rfl, _, rfl⟩
      · exact absurd rfl (muN q ⟨b, ob, h3, h4, m2⟩)
      · rfl
  · rcases split a q u e1 e2 with ⟨h1, h2⟩ | ⟨rfl, rfl, rfl⟩
    · have h := R.obj a q u h1 h2
      cases u with
      | lst xs => obtain ⟨vs, z, r⟩ := h; exact ⟨vs, by rw [upd_ne (ne_of_none z hn)]; exact z, Reps.mono' pre ht _ _ r⟩
      | fro xs => obtain ⟨vs, z, r⟩ := h; exact ⟨vs, hl _ _ z, Reps.mono' pre ht _ _ r⟩
      | dct xs => obtain ⟨vs, z, r⟩ := h; exact ⟨vs, by rw [upd_ne (ne_of_none z hn)]; exact z, KReps.mono' pre ht r⟩
    · exact new _ (fun q hq => upd_ne hq) upd_same
  · obtain ⟨a, u, e1, e2, e3⟩ := m
    rcases split a q u e1 e2 with ⟨h1, h2⟩ | ⟨_, rfl, _⟩
    · exact .inl ⟨a, u, h1, h2, e3⟩
    · exact .inr hn
theorem Reps.updNew {H : Hp} {p : Addr} {ho : HO} {xs : List MV} {vs : List V} (hn : H p = none) (h : Reps K ρ H xs vs) : Reps K ρ (upd H p ho) xs vs := Reps.mono' (List.prefix_refl _) (fun q ws h => by
    rcases h with h | h
    · refine .inl ?_
      rcases h with h | ⟨u, h⟩
      · exact .inl (by rw [upd_ne (ne_of_none h hn)]; exact h)
      · exact .inr ⟨u, by rw [upd_ne (ne_of_none h hn)]; exact h⟩
    · exact .inr h) _ _ h
theorem RepH.pushL (R : RepH K ρ mh H) {p : Addr} {xs : List MV} {vs : List V} (hn : H p = none) (r : Reps K ρ H xs vs) :
    RepH K (ρ ++ [p]) (mh ++ [.lst xs]) (upd H p (.lst vs)) ∧ Stp ρ mh H (ρ ++ [p]) (mh ++ [.lst xs]) (upd H p (.lst vs)) ∧ Rep K (ρ ++ [p]) (upd H p (.lst vs)) (.ref mh.length) (.ref p) := by
  obtain ⟨a, b⟩ := R.push (o := .lst xs) (ho := .lst vs) hn rfl (fun H' h1 h2 => ⟨vs, h2, by
    refine Reps.mono' (List.prefix_append _ _) (fun q ws h => ?_) _ _ r
    rcases h with h | h
    · refine .inl ?_
      rcases h with h | ⟨u, h⟩
      · exact .inl (by rw [h1 q (ne_of_none h hn)]; exact h)
      · exact .inr ⟨u, by rw [h1 q (ne_of_none h hn)]; exact h⟩
    · exact .inr h⟩)
  exact ⟨a, b, .ref (by rw [← R.len]; simp)⟩
/-- a new tuple: it takes no place -/
theorem RepH.tupl (R : RepH K ρ mh H) {p : Addr} {xs : List MV} {vs : List V} (hn : H p = none) (r : Reps K ρ H xs vs) :
    RepH K ρ mh (upd H p (.tup vs)) ∧ Stp ρ mh H ρ mh (upd H p (.tup vs)) ∧ Rep K ρ (upd H p (.tup vs)) (.tup xs) (.ref p) := by
  have ht : ∀ q vs', SqT K H q vs' → SqT K (upd H p (.tup vs)) q vs' := fun q vs' h => by
    rcases h with h | h
    · refine .inl ?_
      rcases h with h | ⟨u, h⟩
      · exact .inl (by rw [upd_ne (ne_of_none h hn)]; exact h)
      · exact .inr ⟨u, by rw [upd_ne (ne_of_none h hn)]; exact h⟩
    · exact .inr h
  have hl : ∀ q vs', FzL K H q vs' → FzL K (upd H p (.tup vs)) q vs' := fun q vs' h => h.at fun o u e => by rw [upd_ne (ne_of_none e hn)]; exact e
  refine ⟨⟨R.len, R.inj, fun a q o e1 e2 => ?_⟩, ⟨List.prefix_refl _, fun q m => .inl m, fun q u _ e => by rw [upd_ne (ne_of_none e hn)]; exact e⟩, .tup (.of upd_same) (Reps.mono' (List.prefix_refl _) ht _ _ r)⟩
  have h := R.obj a q o e1 e2
  cases o with
  | lst xs => obtain ⟨vs, z, r⟩ := h; exact ⟨vs, by rw [upd_ne (ne_of_none z hn)]; exact z, Reps.mono' (List.prefix_refl _) ht _ _ r⟩
  | fro xs => obtain ⟨vs, z, r⟩ := h; exact ⟨vs, hl _ _ z, Reps.mono' (List.prefix_refl _) ht _ _ r⟩
  | dct xs => obtain ⟨vs, z, r⟩ := h; exact ⟨vs, by rw [upd_ne (ne_of_none z hn)]; exact z, KReps.mono' (List.prefix_refl _) ht r⟩
/-- a list or a dict is written -/
theorem RepH.set (R : RepH K ρ mh H) {a : Nat} {p : Addr} {o o' : MO} {ho : HO} (hp : ρ[a]? = some p) (e : mh[a]? = some o) (hm : o.mut = true) (hm' : o'.mut = true)
    (new : ∀ H', (∀ q vs, SqT K H q vs → SqT K H' q vs) → H' p = some ho → RepO K ρ H' o' p) :
    RepH K ρ (mh.set a o') (upd H p ho) ∧ Stp ρ mh H ρ (mh.set a o') (upd H p ho) := by
  have hz := R.mu ⟨a, o, hp, e, hm⟩
  have ht : ∀ q vs', SqT K H q vs' → SqT K (upd H p ho) q vs' := fun q vs' h => by
    rcases h with h | h
    · refine .inl ?_
      have ne : q ≠ p := fun z => by
        subst z
        rcases hz with ⟨_, z⟩ | ⟨_, z⟩ <;> (rcases h with h | ⟨o, h⟩ <;> (rw [z] at h; cases h))
      rcases h with h | ⟨u, h⟩
      · exact .inl (by rw [upd_ne ne]; exact h)
      · exact .inr ⟨u, by rw [upd_ne ne]; exact h⟩
    · exact .inr h
  have hla : a < mh.length := (List.getElem?_eq_some_iff.mp e).1
  refine ⟨⟨by simp [R.len], fun i j q oa ob e1 e2 e3 e4 m1 m2 => ?_, fun i q u e1 e2 => ?_⟩, List.prefix_refl _, fun q m => ?_, fun q u nm h => ?_⟩
  · have f : ∀ i (u : MO), (mh.set a o')[i]? = some u → u.mut = true → ∃ u' : MO, mh[i]? = some u' ∧ u'.mut = true := fun i u h m => by
      by_cases hi : i = a
      · subst hi; exact ⟨o, e, hm⟩
      · rw [List.getElem?_set_ne (Ne.symm hi)] at h; exact ⟨u, h, m⟩
    obtain ⟨oa', h3, n1⟩ := f i oa e3 m1
    obtain ⟨ob', h4, n2⟩ := f j ob e4 m2
    exact R.inj i j q oa' ob' e1 e2 h3 h4 n1 n2
  · by_cases hi : i = a
    · subst hi
      rw [hp] at e1; cases e1
      rw [List.getElem?_set_self hla] at e2; cases e2
      exact new _ ht upd_same
    · rw [List.getElem?_set_ne (Ne.symm hi)] at e2
      have h := R.obj i q u e1 e2
      have nq : u.mut = true → q ≠ p := fun m z => by
        subst z
        exact hi (R.inj i a q u o e1 hp e2 e m hm)
      cases u with
      | lst xs => obtain ⟨vs, z, r⟩ := h; exact ⟨vs, by rw [upd_ne (nq rfl)]; exact z, Reps.mono' (List.prefix_refl _) ht _ _ r⟩
      | fro xs =>
        obtain ⟨vs, z, r⟩ := h
        refine ⟨vs, z.at fun u w e => ?_, Reps.mono' (List.prefix_refl _) ht _ _ r⟩
        have ne : q ≠ p := fun y => by
          subst y
          rcases hz with ⟨_, y⟩ | ⟨_, y⟩ <;> (rw [y] at e; cases e)
        rw [upd_ne ne]; exact e
      | dct xs => obtain ⟨vs, z, r⟩ := h; exact ⟨vs, by rw [upd_ne (nq rfl)]; exact z, KReps.mono' (List.prefix_refl _) ht r⟩
  · obtain ⟨i, u, h1, h2, h3⟩ := m
    by_cases hi : i = a
    · subst hi; rw [hp] at h1; cases h1; exact .inl ⟨i, o, hp, e, hm⟩
    · rw [List.getElem?_set_ne (Ne.symm hi)] at h2; exact .inl ⟨i, u, h1, h2, h3⟩
  · have ne : q ≠ p := fun z => by subst z; exact nm ⟨a, o, hp, e, hm⟩
    rw [upd_ne ne]; exact h
end
end Mn

set_option maxHeartbeats 4000000
/-! Ops: operators, comparisons, subscripts, built-ins, methods: what the small evaluator says, the model does. -/
namespace Mn
open PySem PySem.Spec PyProof.Rows L2

def Post (K : PySem.W.Frag) (ρ : List Addr) (mh : MH) (H : Hp) (mv : MV) (mh' : MH) (Q : VK) : Prop :=
  ∀ v H' ρ', RepH K ρ' mh' H' → Rep K ρ' H' mv v → Stp ρ mh H ρ' mh' H' → Q v H'
section
variable {K : PySem.W.Frag} {ρ ρ1 : List Addr} {mh m1 mh' : MH} {H H1 : Hp} {mv : MV} {Q : VK}
theorem Post.same (P : Post K ρ mh H mv mh Q) (R : RepH K ρ mh H) {v : V} (h : Rep K ρ H mv v) : Q v H := P v H ρ R h .refl
theorem Post.after (P : Post K ρ mh H mv mh' Q) (S : Stp ρ mh H ρ1 m1 H1) : Post K ρ1 m1 H1 mv mh' Q := fun v H' ρ' a b c => P v H' ρ' a b (S.trans c)
theorem lineM_le : lineM ≤ sizeLine := by rw [sizeLine_eq]; decide
theorem Post.newL {xs : List MV} {vs : List V} (P : Post K ρ mh H (.ref mh.length) (mh ++ [.lst xs]) Q) (R : RepH K ρ mh H) (h : Reps K ρ H xs vs) {p : Addr} (hn : H p = none) : Q (.ref p) (upd H p (.lst vs)) := by
  obtain ⟨a, b, c⟩ := R.pushL hn h
  exact P _ _ _ a c b
theorem Post.newT {xs : List MV} {vs : List V} (P : Post K ρ mh H (.tup xs) mh Q) (R : RepH K ρ mh H) (h : Reps K ρ H xs vs) {p : Addr} (hn : H p = none) : Q (.ref p) (upd H p (.tup vs)) := by
  obtain ⟨a, b, c⟩ := R.tupl hn h
  exact P _ _ _ a c b
/-! ### trees -/
mutual
theorem dV_dp (f : Nat → Option PyData) (hf : ∀ a p d, ρ[a]? = some p → f a = some d → Dp K H (.ref p) d) : ∀ (x : MV) (v : V) (d : PyData), Rep K ρ H x v → dV f x = some d → Dp K H v d
  | .non, _, _, h, e => by cases h; simp [dV] at e; subst e; exact .non
  | .bl _, _, _, h, e => by cases h; simp [dV] at e; subst e; exact .bl _
  | .int _, _, _, h, e => by cases h; simp [dV] at e; subst e; exact .int _
  | .str _, _, _, h, e => by cases h; simp [dV] at e; subst e; exact .str _
  | .ref a, _, _, h, e => by cases h with | ref r => exact hf a _ _ r (by simpa [dV] using e)
  | .tup xs, _, _, h, e => by
    cases h with
    | tup s r =>
      simp only [dV] at e
      cases q : dVs f xs with
      | none => rw [q] at e; cases e
      | some ds => rw [q] at e; cases e; exact .tup s (dVs_dp f hf xs _ ds r q)
theorem dVs_dp (f : Nat → Option PyData) (hf : ∀ a p d, ρ[a]? = some p → f a = some d → Dp K H (.ref p) d) : ∀ (xs : List MV) (vs : List V) (ds : List PyData), Reps K ρ H xs vs → dVs f xs = some ds → DpAll K H vs ds
  | [], _, _, h, e => by cases h; simp [dVs] at e; subst e; exact .nil
  | x :: xs, _, _, h, e => by
    cases h with
    | cons a b =>
      simp only [dVs] at e
      split at e
      · cases e; exact .cons (dV_dp f hf x _ _ a (by assumption)) (dVs_dp f hf xs _ _ b (by assumption))
      · cases e
end
theorem snapR_dp (R : RepH K ρ mh H) : ∀ (n : Nat) (a : Nat) (p : Addr) (d : PyData), ρ[a]? = some p → snapR mh n a = some d → Dp K H (.ref p) d
  | 0, _, _, _, _, e => by simp [snapR] at e
  | n + 1, a, p, d, h, e => by
    simp only [snapR] at e
    have go : ∀ xs, lsts mh a = some xs → (dVs (snapR mh n) xs).map PyData.list = some d → Dp K H (.ref p) d := fun xs hx e => by
      obtain ⟨vs, h1, h2⟩ := R.lsts h hx
      cases q : dVs (snapR mh n) xs with
      | none => rw [q] at e; cases e
      | some ds => rw [q] at e; cases e; exact .lst h1 (dVs_dp _ (snapR_dp R n) xs _ ds h2 q)
    split at e
    · exact go _ (by unfold lsts; rw [‹mh[a]? = _›]) e
    · exact go _ (by unfold lsts; rw [‹mh[a]? = _›]) e
    · cases e
theorem snap_dp (R : RepH K ρ mh H) {x : MV} {v : V} {d : PyData} (h : Rep K ρ H x v) (e : snap mh x = some d) : Dp K H v d := dV_dp _ (snapR_dp R 6) x v d h e
theorem dV_flat {f g : Nat → Option PyData} {x : MV} (h : flatM x = true) : dV f x = dV g x := by cases x <;> simp_all [flatM, dV]
theorem flat_rep {x : MV} {v : V} (h : Rep K ρ H x v) (e : flatM x = true) : flatV v = true := by cases h <;> first | rfl | simp [flatM] at e
theorem eqF_rep {x y : MV} {v w : V} (h : Rep K ρ H x v) (g : Rep K ρ H y w) (e : flatM x = true) (e' : flatM y = true) : eqV v w = eqF x y := by
  cases h <;> cases g <;> simp [flatM] at e e' <;> simp [eqF, snap, dV, eqV, PyData.eqv, V.int.injEq]
end

section
variable {X : Cx} {K : PySem.W.Frag}
theorem binS {op : Operator} {mx my mv : MV} {mh mh' : MH} (e : binM op mx my mh = .ok mv mh') :
    ∃ r, OpR X (binaryOp op) r ∧ ∀ ρ H x y, RepH X.K ρ mh H → Rep X.K ρ H mx x → Rep X.K ρ H my y → ∀ Q, Post X.K ρ mh H mv mh' Q → r x y H Q := by
  have hl := lineM_le
  unfold binM at e
  split at e
  · cases e; exact ⟨_, op_add, fun ρ H x y R hx hy Q P => by cases hx; cases hy; exact ⟨_, _, rfl, rfl, P.same R (.int _)⟩⟩
  · split at e
    · cases e; exact ⟨_, op_add_str, fun ρ H x y R hx hy Q P => by cases hx; cases hy; exact ⟨_, _, rfl, rfl, by omega, P.same R (.str _)⟩⟩
    · cases e
  · split at e
    · cases e
      refine ⟨_, op_catA, fun ρ H x y R hx hy Q P => ?_⟩
      cases hx with
      | tup s1 r1 =>
        cases hy with
        | tup s2 r2 =>
          have l1 := r1.length; have l2 := r2.length
          refine ⟨_, _, _, _, rfl, rfl, s1, s2, by omega, fun z => ?_, fun _ z => ?_, fun _ _ p hn => P.newT R (r1.append r2) hn⟩
          · subst z; cases r1; exact P.same R (.tup s2 (by simpa using r2))
          · subst z; cases r2; exact P.same R (.tup s1 (by simpa using r1))
    · cases e
  · split at e
    · split at e
      · cases e
        rename_i a b _ _ xs ys ea eb hle
        refine ⟨_, op_cat, fun ρ H x y R hx hy Q P => ?_⟩
        cases hx with
        | ref h1 =>
          cases hy with
          | ref h2 =>
            obtain ⟨vs, f1, r1⟩ := R.lst h1 ea
            obtain ⟨ws, f2, r2⟩ := R.lst h2 eb
            have l1 := r1.length; have l2 := r2.length
            exact ⟨_, _, _, _, rfl, rfl, f1, f2, by omega, fun p hn => P.newL R (r1.append r2) hn⟩
      · cases e
    · cases e
  · cases e; exact ⟨_, op_sub, fun ρ H x y R hx hy Q P => by cases hx; cases hy; exact ⟨_, _, rfl, rfl, P.same R (.int _)⟩⟩
  · split at e
    · cases e; exact ⟨_, op_mul, fun ρ H x y R hx hy Q P => by cases hx; cases hy; exact ⟨_, _, rfl, rfl, (by unfold CMul; omega), P.same R (.int _)⟩⟩
    · cases e
  · split at e
    · split at e
      · cases e
        rename_i a k _ xs ea hc
        refine ⟨_, op_rep, fun ρ H x y R hx hy Q P => ?_⟩
        cases hx with
        | ref h1 =>
          cases hy
          obtain ⟨vs, f1, r1⟩ := R.lst h1 ea
          have l1 := r1.length
          exact ⟨_, _, _, rfl, rfl, f1, hc.1, hc.2.1, (by rw [← l1]; omega), fun p hn => P.newL R (r1.flatRep _) hn⟩
      · cases e
    · cases e
  · split at e
    · cases e
      rename_i hc
      refine ⟨_, op_repT, fun ρ H x y R hx hy Q P => ?_⟩
      cases hx with
      | tup s1 r1 =>
        cases hy
        have l1 := r1.length
        exact ⟨_, _, _, rfl, rfl, s1, (fun z => by subst z; cases r1; exact hc.2.2.2 rfl), hc.1, hc.2.1, by omega, fun p hn => P.newT R (r1.flatRep _) hn⟩
    · cases e
  · split at e
    · cases e
      rename_i hc
      exact ⟨_, op_fdiv, fun ρ H x y R hx hy Q P => by cases hx; cases hy; exact ⟨_, _, rfl, rfl, hc, P.same R (.int _)⟩⟩
    · cases e
  · split at e
    · cases e
      rename_i hc
      exact ⟨_, op_mod, fun ρ H x y R hx hy Q P => by cases hx; cases hy; exact ⟨_, _, rfl, rfl, hc, P.same R (.int _)⟩⟩
    · cases e
  · split at e
    · cases e
      rename_i hc
      exact ⟨_, op_pow, fun ρ H x y R hx hy Q P => by cases hx; cases hy; exact ⟨_, _, rfl, rfl, hc, P.same R (.int _)⟩⟩
    · cases e
  · split at e
    · cases e
      rename_i hc
      exact ⟨_, op_shl, fun ρ H x y R hx hy Q P => by cases hx; cases hy; exact ⟨_, _, rfl, rfl, hc, P.same R (.int _)⟩⟩
    · cases e
  · split at e
    · cases e
      rename_i hc
      exact ⟨_, op_shr, fun ρ H x y R hx hy Q P => by cases hx; cases hy; exact ⟨_, _, rfl, rfl, hc, P.same R (.int _)⟩⟩
    · cases e
  · cases e; exact ⟨_, op_and, fun ρ H x y R hx hy Q P => by cases hx; cases hy; exact ⟨_, _, rfl, rfl, P.same R (.int _)⟩⟩
  · cases e; exact ⟨_, op_or, fun ρ H x y R hx hy Q P => by cases hx; cases hy; exact ⟨_, _, rfl, rfl, P.same R (.int _)⟩⟩
  · cases e; exact ⟨_, op_xor, fun ρ H x y R hx hy Q P => by cases hx; cases hy; exact ⟨_, _, rfl, rfl, P.same R (.int _)⟩⟩
  · cases e
end
end Mn

set_option maxHeartbeats 4000000
/-! Ops2: comparisons, truth, subscripts, slices, stores. -/
namespace Mn
open PySem PySem.Spec PyProof.Rows L2
section
variable {K : PySem.W.Frag} {ρ : List Addr} {mh : MH} {H : Hp}
theorem anyF {x : MV} {v : V} (h : Rep K ρ H x v) (e : flatM x = true) : ∀ {ys : List MV} {vs : List V}, Reps K ρ H ys vs → ys.all flatM = true → vs.all flatV = true ∧ inV v vs = ys.any fun z => eqF z x
  | [], _, r, _ => by cases r; exact ⟨rfl, rfl⟩
  | y :: ys, _, r, q => by
    cases r with
    | cons a b =>
      simp only [List.all_cons, Bool.and_eq_true] at q
      obtain ⟨h1, h2⟩ := anyF h e b q.2
      refine ⟨by simp only [List.all_cons, Bool.and_eq_true]; exact ⟨flat_rep a q.1, h1⟩, ?_⟩
      unfold inV at h2 ⊢
      rw [List.any_cons, List.any_cons, h2, eqF_rep a h q.1 e]
theorem getK_rep {k : Key} {xs : List (Key × MV)} {vs : List (Key × V)} (h : KReps K ρ H xs vs) : (∀ m, getK k xs = some m → ∃ v, valV vs k = some v ∧ Rep K ρ H m v) ∧ (getK k xs = none → valV vs k = none) := by
  induction h with
  | nil => exact ⟨fun m e => by simp [getK] at e, fun _ => rfl⟩
  | @cons j x v xs vs a b ih =>
    by_cases e : j = k
    · subst e
      refine ⟨fun m q => ?_, fun q => ?_⟩
      · simp [getK] at q; subst q; exact ⟨v, by simp [valV], a⟩
      · simp [getK] at q
    · have e1 : getK k ((j, x) :: xs) = getK k xs := by simp [getK, e]
      have e2 : valV ((j, v) :: vs) k = valV vs k := by simp [valV, e]
      rw [e1, e2]; exact ih
theorem putK_rep {k : Key} {x : MV} {v : V} (r : Rep K ρ H x v) {xs : List (Key × MV)} {vs : List (Key × V)} (h : KReps K ρ H xs vs) : KReps K ρ H (Mn.putK k x xs) (L2.putK vs k v) := by
  have ha : (xs.any fun kv => decide (kv.1 = k)) = vs.any fun kv => decide (kv.1 = k) := by
    induction h with
    | nil => rfl
    | cons _ _ ih => simp [ih]
  unfold Mn.putK L2.putK
  rw [ha]
  split
  · rename_i hh
    clear ha hh
    induction h with
    | nil => exact .nil
    | @cons j y u xs vs a b ih =>
      simp only [List.map_cons]
      by_cases e : j = k
      · simp only [e, if_true]; exact .cons r ih
      · simp only [e, if_false]; exact .cons a ih
  · rename_i hh
    clear ha hh
    induction h with
    | nil => exact .cons r .nil
    | cons a _ ih => exact .cons a ih
theorem keyOf_rep {x : MV} {v : V} {k : Key} (h : Rep K ρ H x v) (e : keyOf x = some k) : v = kV k := by
  cases h <;> simp [keyOf] at e <;> subst e <;> rfl
theorem truV (R : RepH K ρ mh H) {x : MV} {v : V} {b : Bool} (h : Rep K ρ H x v) (e : truth mh x = some b) : TruV K v H b := by
  cases h with
  | non => simp [truth] at e; subst e; rfl
  | bl c => simp [truth] at e; subst e; rfl
  | int i => simp [truth] at e; subst e; rfl
  | str s =>
    simp only [truth] at e
    split at e
    · cases e; refine ⟨Nat.le_trans (by assumption) lineM_le, ?_⟩; cases q : s.length <;> simp; omega
    · cases e
  | tup s r => simp only [truth, Option.some.injEq] at e; subst e; refine .inr (.inl ⟨_, s, ?_⟩); cases r <;> rfl
  | ref h =>
    simp only [truth] at e
    split at e
    · cases e; obtain ⟨vs, h1, h2⟩ := R.lst h (by assumption); exact .inl ⟨vs, .of h1, by cases h2 <;> rfl⟩
    · cases e; obtain ⟨vs, h1, h2⟩ := R.obj _ _ _ h (by assumption); exact .inl ⟨vs, h1.seq, by cases h2 <;> rfl⟩
    · cases e; obtain ⟨vs, h1, h2⟩ := R.dct h (by assumption); exact .inr (.inr ⟨vs, h1, by cases h2 <;> rfl⟩)
    · cases e
end
section
variable {X : Cx}
/-- in and not in of a dict, by values -/
theorem op_in_dict (hu : X.A.units + 1 < cLine) : OpR X (compareOp .In) (fun y x H Q => ∃ a o, x = .ref a ∧ DGet H a y o ∧ Q (.bl o.isSome) H) := by
  intro pins s σ H y x iv u Q I ry rx q
  obtain ⟨a, ov, ex, g, q2⟩ := q
  subst ex
  obtain rfl : u = Value.ref a := rx
  exact d_in hu I g ry fun s3 I3 => ⟨.bl ov.isSome, H, I3, rfl, q2⟩
theorem op_notIn_dict (hu : X.A.units + 1 < cLine) : OpR X (compareOp .NotIn) (fun y x H Q => ∃ a o, x = .ref a ∧ DGet H a y o ∧ Q (.bl (!o.isSome)) H) := by
  intro pins s σ H y x iv u Q I ry rx q
  obtain ⟨a, ov, ex, g, q2⟩ := q
  subst ex
  obtain rfl : u = Value.ref a := rx
  exact d_notIn hu I g ry fun s3 I3 => ⟨.bl (!ov.isSome), H, I3, rfl, q2⟩
def CmpS (X : Cx) (op : CmpOp) (mx my : MV) (mh : MH) (b : Bool) : Prop :=
  ∃ r, OpR X (compareOp op) r ∧ ∀ ρ H x y, RepH X.K ρ mh H → Rep X.K ρ H mx x → Rep X.K ρ H my y → ∀ Q : VK, Q (.bl b) H → r x y H Q
theorem eqS (hu : X.A.units + 64 < cLine) {mx my : MV} {mh : MH} {b : Bool} (e : eqM mh mx my = some b) : CmpS X .Eq mx my mh b := by
  unfold eqM at e
  split at e
  · rename_i s1 s2 h1 h2
    have e1 : mx = .str s1 := by cases mx <;> simp [strOf] at h1; rw [h1]
    have e2 : my = .str s2 := by cases my <;> simp [strOf] at h2; rw [h2]
    subst e1 e2
    cases e
    refine ⟨_, op_eq, fun ρ H x y R hx hy Q q => ?_⟩
    cases hx
    cases hy
    exact ⟨rfl, by simpa using q⟩
  · unfold eqD at e
    split at e
    · split at e
      · cases e
        rename_i d f h1 h2 h3
        rw [Bool.and_eq_true] at h3
        exact ⟨_, op_eqD hu, fun ρ H x y R hx hy Q q => ⟨d, f, snap_dp R hx h1, snap_dp R hy h2, h3.1, h3.2, q⟩⟩
      · cases e
    · cases e
theorem neS (hu : X.A.units + 64 < cLine) {mx my : MV} {mh : MH} {b : Bool} (e : eqM mh mx my = some b) : CmpS X .NotEq mx my mh (!b) := by
  unfold eqM at e
  split at e
  · rename_i s1 s2 h1 h2
    have e1 : mx = .str s1 := by cases mx <;> simp [strOf] at h1; rw [h1]
    have e2 : my = .str s2 := by cases my <;> simp [strOf] at h2; rw [h2]
    subst e1 e2
    cases e
    refine ⟨_, op_ne, fun ρ H x y R hx hy Q q => ?_⟩
    cases hx
    cases hy
    exact ⟨rfl, by simpa using q⟩
  · unfold eqD at e
    split at e
    · split at e
      · cases e
        rename_i d f h1 h2 h3
        rw [Bool.and_eq_true] at h3
        exact ⟨_, op_neD hu, fun ρ H x y R hx hy Q q => ⟨d, f, snap_dp R hx h1, snap_dp R hy h2, h3.1, h3.2, q⟩⟩
      · cases e
    · cases e
theorem inS (hu : X.A.units + 65 < cLine) {mx my : MV} {mh : MH} {b : Bool} (e : inM mh mx my = some b) : CmpS X .In mx my mh b ∧ CmpS X .NotIn mx my mh (!b) := by
  have hu1 : X.A.units + 1 < cLine := by omega
  unfold inM at e
  split at e
  · split at e
    · cases e
      rename_i ys hc
      rw [Bool.and_eq_true] at hc
      refine ⟨⟨_, op_in_seq, fun ρ H x y R hx hy Q q => ?_⟩, ⟨_, op_notIn_seq, fun ρ H x y R hx hy Q q => ?_⟩⟩
      all_goals
        cases hy with
        | tup s r =>
          obtain ⟨h1, h2⟩ := anyF hx hc.1 r hc.2
          refine ⟨_, _, rfl, .inr s, flat_rep hx hc.1, h1, ?_⟩
          simp only [h2, Bool.false_eq_true, if_false, if_true]; exact q
    · cases e
  · split at e
    · rename_i a _ kvs hd
      cases hk : keyOf mx with
      | none => rw [hk] at e; cases e
      | some k =>
        rw [hk] at e; cases e
        refine ⟨⟨_, op_in_dict hu1, fun ρ H x y R hx hy Q q => ?_⟩, ⟨_, op_notIn_dict hu1, fun ρ H x y R hx hy Q q => ?_⟩⟩
        all_goals
          cases hy with
          | ref hp =>
            obtain ⟨vs, h1, h2⟩ := R.dct hp hd
            have hv := keyOf_rep hx hk
            subst hv
            refine ⟨_, valV vs k, rfl, .k h1, ?_⟩
            obtain ⟨g1, g2⟩ := getK_rep (k := k) h2
            dsimp only at q
            cases z : getK k kvs with
            | none => rw [g2 z]; rw [z] at q; exact q
            | some m => obtain ⟨v, g, _⟩ := g1 m z; rw [g]; rw [z] at q; exact q
    · split at e
      · rename_i a _ ys hl
        split at e
        · cases e
          rename_i hc
          rw [Bool.and_eq_true] at hc
          refine ⟨⟨_, op_in_seq, fun ρ H x y R hx hy Q q => ?_⟩, ⟨_, op_notIn_seq, fun ρ H x y R hx hy Q q => ?_⟩⟩
          all_goals
            cases hy with
            | ref hp =>
              obtain ⟨vs, s, r⟩ := R.lsts hp hl
              obtain ⟨h1, h2⟩ := anyF hx hc.1 r hc.2
              refine ⟨_, _, rfl, .inl s, flat_rep hx hc.1, h1, ?_⟩
              simp only [h2, Bool.false_eq_true, if_false, if_true]; exact q
        · split at e
          · split at e
            · cases e
              rename_i d ds h1 h2 h3
              rw [Bool.and_eq_true] at h3
              refine ⟨⟨_, op_inD hu, fun ρ H x y R hx hy Q q => ?_⟩, ⟨_, op_notInD hu, fun ρ H x y R hx hy Q q => ?_⟩⟩
              all_goals
                cases hy with
                | ref hp =>
                  obtain ⟨vs, s, r⟩ := R.lsts hp hl
                  exact ⟨d, ds, snap_dp R hx h1, .lst s (dVs_dp _ (snapR_dp R 5) _ _ _ r h2), h3.1, h3.2, q⟩
            · cases e
          · cases e
      · cases e
  · split at e
    · cases e
      refine ⟨⟨_, op_in_str, fun ρ H x y R hx hy Q q => ?_⟩, ⟨_, op_notin_str, fun ρ H x y R hx hy Q q => ?_⟩⟩ <;> (cases hx; cases hy; exact ⟨_, _, rfl, rfl, q⟩)
    · cases e
  · cases e
theorem cmpS (hu : X.A.units + 65 < cLine) {op : CmpOp} {mx my : MV} {mh : MH} {b : Bool} (e : cmpM op mx my mh = some b) : CmpS X op mx my mh b := by
  have mapN : ∀ {o : Option Bool}, o.map (!·) = some b → o = some (!b) := fun {o} h => by cases o <;> simp_all
  cases op
  case Eq => exact eqS (by omega) e
  case NotEq => have := neS (X := X) (by omega) (mapN e); simpa using this
  case In => exact (inS hu e).1
  case NotIn => have := (inS hu (mapN e)).2; simpa using this
  case Lt =>
    simp only [cmpM] at e
    split at e
    · cases e; exact ⟨_, op_lt, fun ρ H x y R hx hy Q q => by cases hx; cases hy; exact ⟨_, _, rfl, rfl, q⟩⟩
    · cases e
  case LtE =>
    simp only [cmpM] at e
    split at e
    · cases e; exact ⟨_, op_le, fun ρ H x y R hx hy Q q => by cases hx; cases hy; exact ⟨_, _, rfl, rfl, q⟩⟩
    · cases e
  case Gt =>
    simp only [cmpM] at e
    split at e
    · cases e; exact ⟨_, op_gt, fun ρ H x y R hx hy Q q => by cases hx; cases hy; exact ⟨_, _, rfl, rfl, q⟩⟩
    · cases e
  case GtE =>
    simp only [cmpM] at e
    split at e
    · cases e; exact ⟨_, op_ge, fun ρ H x y R hx hy Q q => by cases hx; cases hy; exact ⟨_, _, rfl, rfl, q⟩⟩
    · cases e
  case Is =>
    simp only [cmpM] at e
    split at e
    · cases e
      refine ⟨_, op_isN, fun ρ H x y R hx hy Q q => ?_⟩
      cases hy
      refine ⟨rfl, ?_⟩
      have : decide (x = V.non) = decide (mx = MV.non) := by cases hx <;> simp
      rw [this]; exact q
    · cases e
  case IsNot =>
    simp only [cmpM] at e
    split at e
    · cases e
      refine ⟨_, op_notN, fun ρ H x y R hx hy Q q => ?_⟩
      cases hy
      refine ⟨rfl, ?_⟩
      have : decide (x = V.non) = decide (mx = MV.non) := by cases hx <;> simp
      rw [this]; exact q
    · cases e
/-! ### subscripts -/
theorem atI_rep {K : PySem.W.Frag} {ρ : List Addr} {H : Hp} {xs : List MV} {vs : List V} {i : Int} {m : MV} (h : Reps K ρ H xs vs) (e : atI xs i = some m) : ∃ v, atI vs i = some v ∧ Rep K ρ H m v := by
  unfold atI at e ⊢
  rw [← h.length]
  cases q : ixN xs.length i with
  | none => rw [q] at e; cases e
  | some j => rw [q] at e; exact h.get e
theorem ixS {mx my mv : MV} {mh mh' : MH} (e : ixM mx my mh = .ok mv mh') (nd : ∀ a kvs, mx = .ref a → mh[a]? ≠ some (.dct kvs)) :
    mh' = mh ∧ ∀ ρ H x y, RepH X.K ρ mh H → Rep X.K ρ H mx x → Rep X.K ρ H my y → ∀ Q : VK, (∀ v, Rep X.K ρ H mv v → Q v H) → rIx X.K x y H Q := by
  have hl := lineM_le
  have oO : ∀ {o : Option MV}, ofO o mh = .ok mv mh' → o = some mv ∧ mh' = mh := fun {o} h => by cases o <;> simp [ofO] at h; exact ⟨by rw [h.1], h.2.symm⟩
  unfold ixM at e
  split at e
  · obtain ⟨e2, rfl⟩ := oO e
    refine ⟨rfl, fun ρ H x y R hx hy Q q => ?_⟩
    cases hx with
    | tup s r =>
      cases hy
      obtain ⟨v, h1, h2⟩ := atI_rep r e2
      exact .inr (.inl ⟨_, _, _, _, rfl, rfl, s, h1, q v h2⟩)
  · split at e
    · rename_i a _ kvs h; exact absurd h (nd a kvs rfl)
    · split at e
      · rename_i a _ xs i hl' 
        obtain ⟨e2, rfl⟩ := oO e
        refine ⟨rfl, fun ρ H x y R hx hy Q q => ?_⟩
        cases hx with
        | ref hp =>
          cases hy
          obtain ⟨vs, s, r⟩ := R.lsts hp (by assumption)
          obtain ⟨v, h1, h2⟩ := atI_rep r e2
          exact .inl ⟨_, _, _, _, rfl, rfl, s, h1, q v h2⟩
      · cases e
  · split at e
    · rename_i z i hz
      obtain ⟨e2, rfl⟩ := oO e
      refine ⟨rfl, fun ρ H x y R hx hy Q q => ?_⟩
      cases hx; cases hy
      cases w : atI z.cps.toList i with
      | none => rw [w] at e2; cases e2
      | some c => rw [w] at e2; cases e2; exact .inr (.inr ⟨z, i, c, rfl, rfl, by omega, w, q _ (.str _)⟩)
    · cases e
  · cases e
theorem ixSd {a : Nat} {kvs : List (Key × MV)} {my mv : MV} {mh mh' : MH} (e : ixM (.ref a) my mh = .ok mv mh') (hd : mh[a]? = some (.dct kvs)) :
    mh' = mh ∧ ∀ ρ H x y, RepH X.K ρ mh H → Rep X.K ρ H (.ref a) x → Rep X.K ρ H my y → ∃ p v, x = .ref p ∧ DGet H p y (some v) ∧ Rep X.K ρ H mv v := by
  simp only [ixM, hd] at e
  split at e
  · rename_i k hk
    cases w : getK k kvs with
    | none => rw [w] at e; simp [ofO] at e
    | some m =>
      rw [w] at e
      simp only [ofO, R.ok.injEq] at e
      obtain ⟨rfl, rfl⟩ := e
      refine ⟨rfl, fun ρ H x y R hx hy => ?_⟩
      cases hx with
      | ref hp =>
        obtain ⟨vs, h1, h2⟩ := R.dct hp hd
        obtain ⟨v, g, r⟩ := (getK_rep h2).1 m w
        have := keyOf_rep hy hk
        subst this
        exact ⟨_, v, rfl, by rw [← g]; exact .k h1, r⟩
  · cases e
/-! ### slices -/
theorem cut_rep {K : PySem.W.Frag} {ρ : List Addr} {H : Hp} {xs : List MV} {vs : List V} (h : Reps K ρ H xs vs) (lo hi : Option Int) : Reps K ρ H (cutM xs lo hi) (cutV vs lo hi) := by
  unfold cutM cutV
  rw [h.length]
  exact (h.drop _).take _
theorem slS {mx mv : MV} {lo hi : Option Int} {mh mh' : MH} (e : slM mx lo hi mh = .ok mv mh') :
    ∃ r, L2.SlR X r ∧ ∀ ρ H x, RepH X.K ρ mh H → Rep X.K ρ H mx x → ∀ Q : VK, Post X.K ρ mh H mv mh' Q → r x lo hi H Q := by
  have hl := lineM_le
  unfold slM at e
  split at e
  · cases e
    rename_i xs
    refine ⟨_, sl_tupA, fun ρ H x R hx Q P => ?_⟩
    cases hx with
    | tup s r =>
      refine ⟨_, _, rfl, s, fun z => ?_, fun _ p hn => P.newT R (cut_rep r lo hi) hn⟩
      refine P.same R ?_
      have h1 : cutM xs lo hi = xs := by
        unfold cutM
        rw [r.length, z.1, z.2, ← r.length]
        simp
      rw [h1]; exact .tup s r
  · split at e
    · cases e
      rename_i a xs hl'
      refine ⟨_, sl_list, fun ρ H x R hx Q P => ?_⟩
      cases hx with
      | ref hp =>
        obtain ⟨vs, s, r⟩ := R.lsts hp hl'
        exact ⟨_, _, rfl, s, fun p hn => P.newL R (cut_rep r lo hi) hn⟩
    · cases e
  · split at e
    · cases e
      exact ⟨_, sl_str, fun ρ H x R hx Q P => by cases hx; exact ⟨_, rfl, by omega, P.same R (.str _)⟩⟩
    · cases e
  · cases e
/-! ### stores -/
theorem setS (hu : X.A.units + 1 < cLine) {mo mi mv : MV} {mh mh' : MH} (e : setM mo mi mv mh = some mh') :
    ∃ t, PSet X t ∧ ∀ ρ H o i v, RepH X.K ρ mh H → Rep X.K ρ H mo o → Rep X.K ρ H mi i → Rep X.K ρ H mv v → ∀ Q : Hp → Prop, (∀ H', RepH X.K ρ mh' H' → Stp ρ mh H ρ mh' H' → Q H') → t o i v H Q := by
  have hl := lineM_le
  unfold setM at e
  split at e
  · rename_i a
    split at e
    · rename_i xs ea
      split at e
      · rename_i i
        cases w : ixN xs.length i with
        | none => rw [w] at e; cases e
        | some j =>
          rw [w] at e
          simp only [Option.bind_some] at e
          split at e
          · cases e
            refine ⟨_, set_list, fun ρ H o i v R ho hi hv Q q => ?_⟩
            cases ho with
            | ref hp =>
              cases hi
              obtain ⟨vs, h1, r⟩ := R.lst hp ea
              obtain ⟨b1, b2⟩ := R.set (o' := .lst (xs.set j mv)) (ho := .lst (vs.set j v)) hp ea rfl rfl (fun H' k e' => ⟨_, e', Reps.mono' (List.prefix_refl _) k _ _ (r.set hv j)⟩)
              exact ⟨_, _, _, _, rfl, rfl, h1, by rw [← r.length]; exact w, q _ b1 b2⟩
          · cases e
      · cases e
    · rename_i kvs ea
      cases hk : keyOf mi with
      | none => rw [hk] at e; cases e
      | some k =>
        rw [hk] at e
        simp only [Option.bind_some] at e
        split at e
        · cases e
          refine ⟨_, set_dict hu, fun ρ H o i v R ho hi hv Q q => ?_⟩
          cases ho with
          | ref hp =>
            obtain ⟨vs, h1, r⟩ := R.dct hp ea
            have := keyOf_rep hi hk
            subst this
            have ln := r.length
            obtain ⟨b1, b2⟩ := R.set (o' := .dct (Mn.putK k mv kvs)) (ho := .dK (L2.putK vs k v)) hp ea rfl rfl (fun H' k' e' => ⟨_, e', KReps.mono' (List.prefix_refl _) k' (putK_rep hv r)⟩)
            exact ⟨_, _, rfl, .k h1 (by omega), q _ b1 b2⟩
        · cases e
    · cases e
  · cases e
end
end Mn

set_option maxHeartbeats 4000000
/-! Ops3: built-in functions, methods, isinstance. -/
namespace Mn
open PySem PySem.Spec PyProof.Rows L2
/-- the name, and the value behind it -/
def Bi.nm : Bi → Str
  | .len => "len" | .sum => "sum" | .sorted => "sorted" | .tuple => "tuple" | .list => "list" | .int => "int" | .str => "str" | .repr => "repr" | .all => "all" | .any => "any" | .min => "min" | .max => "max" | .abs => "abs"
def Bi.val : Bi → Value
  | .len => .builtin "len" | .sum => .builtin "sum" | .sorted => .builtin "sorted" | .tuple => .type "tuple" | .list => .type "list" | .int => .type "int" | .str => .type "str" | .repr => .builtin "repr" | .all => .builtin "all" | .any => .builtin "any"
  | .min => .builtin "min" | .max => .builtin "max" | .abs => .builtin "abs"
def Ty.nm : Ty → Str
  | .int => "int" | .bool => "bool" | .str => "str" | .tuple => "tuple" | .list => "list" | .dict => "dict"
def Ty.tn : Ty → String
  | .int => "int" | .bool => "bool" | .str => "str" | .tuple => "tuple" | .list => "list" | .dict => "dict"
section
variable {X : Cx}
/-- repr of any data -/
theorem call_reprD (hg : X.A.guards = some []) (hu : X.A.units + 100 < cLine) : CallR X (.builtin "repr") (fun xs H Q => ∃ x d s, xs = [x] ∧ Dp X.K H x d ∧ reprD d = some s ∧ Q (.str s) H) := by
  intro pins s σ H xs us Q I r h
  obtain ⟨x, d, z, rfl, hd, hz, q⟩ := h
  obtain ⟨u, rfl, hr⟩ := vals1 r
  unfold reprD at hz
  split at hz
  · rename_i hc
    cases hz
    obtain ⟨h1, h2, h3, h4⟩ := hc
    have hl := lineM_le
    obtain ⟨as, rd⟩ := Dp.reads I d x u hd hr
    have fin : ∀ (h' : Heap) (t : Tok) (tk : Nat), (∀ b o, s.heap.get? b = some o → h'.get? b = some o) → EP X pins σ Q (.str d.shown t) { s with heap := h', toks := tk } := fun h' t tk k =>
      ⟨.str d.shown, H, I.kept (t' := tk) k, ⟨t, rfl⟩, q⟩
    cases x with
    | non => cases hd; cases hr; exact PySem.P.repr_of_none (fin s.heap _ _ fun _ _ e => e)
    | bl b => cases hd; cases hr; exact PySem.P.repr_of_bool (fin s.heap _ _ fun _ _ e => e)
    | int i => cases hd; obtain ⟨t, rfl⟩ := hr; exact PySem.P.repr_of_int (by simpa [PyData.showable] using h1) (fin s.heap _ _ fun _ _ e => e)
    | str y => cases hd; obtain ⟨t, rfl⟩ := hr; exact PySem.P.repr_of_str (fin s.heap _ _ fun _ _ e => e) (Nat.le_trans h4 hl)
    | ref a => cases hr; exact repr_of_reads' rd h1 (fun z => by rw [h2] at z; cases z) hg (by omega) (fun _ _ e => e) (fun h' t tk k => fin h' t tk k) (by omega)
    | byt _ => cases hd
    | flt _ => cases hd
    | ty _ => cases hd
  · cases hz
theorem lsts_some {mh : MH} {a : Nat} {f : List MV → Option α} {b : α} (e : (lsts mh a).bind f = some b) : ∃ xs, lsts mh a = some xs ∧ f xs = some b := by
  cases h : lsts mh a with
  | none => rw [h] at e; cases e
  | some xs => rw [h] at e; exact ⟨xs, rfl, e⟩
def BltS (X : Cx) (b : Bi) (vs : List MV) (mh : MH) (mv : MV) (mh' : MH) : Prop :=
  ∃ r, CallR X b.val r ∧ ∀ ρ H ws, RepH X.K ρ mh H → Reps X.K ρ H vs ws → ∀ Q : VK, Post X.K ρ mh H mv mh' Q → r ws H Q
theorem Reps.one' {K : PySem.W.Frag} {ρ : List Addr} {H : Hp} {x : MV} {ws : List V} (h : Reps K ρ H [x] ws) : ∃ v, ws = [v] ∧ Rep K ρ H x v := by
  cases h with | cons a b => cases b; exact ⟨_, rfl, a⟩
theorem Reps.two' {K : PySem.W.Frag} {ρ : List Addr} {H : Hp} {x y : MV} {ws : List V} (h : Reps K ρ H [x, y] ws) : ∃ v w, ws = [v, w] ∧ Rep K ρ H x v ∧ Rep K ρ H y w := by
  cases h with | cons a b => obtain ⟨w, rfl, c⟩ := b.one'; exact ⟨_, _, rfl, a, c⟩
theorem bltS (hc : X.calm = true) (hg : X.A.guards = some []) (hu : X.A.units + 100 < cLine) {b : Bi} {vs : List MV} {mv : MV} {mh mh' : MH} (e : bltM b vs mh = .ok mv mh') : BltS X b vs mh mv mh' := by
  have hl := lineM_le
  unfold bltM at e
  split at e
  · -- len of a text
    split at e
    · cases e
      refine ⟨_, call_len_str, fun ρ H ws R hx Q P => ?_⟩
      obtain ⟨v, rfl, hv⟩ := hx.one'
      cases hv
      exact ⟨_, rfl, by omega, P.same R (.int _)⟩
    · cases e
  · cases e
    refine ⟨_, call_len_seq, fun ρ H ws R hx Q P => ?_⟩
    obtain ⟨v, rfl, hv⟩ := hx.one'
    cases hv with
    | tup s r => refine ⟨_, _, rfl, .inr s, ?_⟩; rw [← r.length]; exact P.same R (.int _)
  · split at e
    · cases e
      refine ⟨_, call_len_seq, fun ρ H ws R hx Q P => ?_⟩
      obtain ⟨v, rfl, hv⟩ := hx.one'
      cases hv with
      | ref hp => obtain ⟨us, h1, r⟩ := R.lst hp (by assumption); refine ⟨_, _, rfl, .inl (.of h1), ?_⟩; rw [← r.length]; exact P.same R (.int _)
    · cases e
      refine ⟨_, call_len_seq, fun ρ H ws R hx Q P => ?_⟩
      obtain ⟨v, rfl, hv⟩ := hx.one'
      cases hv with
      | ref hp => obtain ⟨us, h1, r⟩ := R.obj _ _ _ hp (by assumption); refine ⟨_, _, rfl, .inl h1.seq, ?_⟩; rw [← r.length]; exact P.same R (.int _)
    · cases e
      refine ⟨_, call_lenD, fun ρ H ws R hx Q P => ?_⟩
      obtain ⟨v, rfl, hv⟩ := hx.one'
      cases hv with
      | ref hp => obtain ⟨us, h1, r⟩ := R.dct hp (by assumption); refine ⟨_, _, rfl, h1, ?_⟩; rw [← r.length]; exact P.same R (.int _)
    · cases e
  · split at e
    · cases e
      obtain ⟨xs, h1, h2⟩ := lsts_some (by assumption)
      refine ⟨_, cr_sum hc, fun ρ H ws R hx Q P => ?_⟩
      obtain ⟨v, rfl, hv⟩ := hx.one'
      cases hv with
      | ref hp => obtain ⟨us, s, r⟩ := R.lsts hp h1; have := r.ints h2; subst this; exact ⟨_, _, rfl, s, P.same R (.int _)⟩
    · cases e
  · split at e
    · cases e
      obtain ⟨xs, h1, h2⟩ := lsts_some (by assumption)
      refine ⟨_, cr_all hc, fun ρ H ws R hx Q P => ?_⟩
      obtain ⟨v, rfl, hv⟩ := hx.one'
      cases hv with
      | ref hp => obtain ⟨us, s, r⟩ := R.lsts hp h1; have := r.bls h2; subst this; exact ⟨_, _, rfl, s, P.same R (.bl _)⟩
    · cases e
  · split at e
    · cases e
      obtain ⟨xs, h1, h2⟩ := lsts_some (by assumption)
      refine ⟨_, cr_any hc, fun ρ H ws R hx Q P => ?_⟩
      obtain ⟨v, rfl, hv⟩ := hx.one'
      cases hv with
      | ref hp => obtain ⟨us, s, r⟩ := R.lsts hp h1; have := r.bls h2; subst this; exact ⟨_, _, rfl, s, P.same R (.bl _)⟩
    · cases e
  · cases e
    refine ⟨_, call_tuple_of, fun ρ H ws R hx Q P => ?_⟩
    obtain ⟨v, rfl, hv⟩ := hx.one'
    cases hv with
    | tup s r => exact ⟨_, _, rfl, .inr ⟨s, P.same R (.tup s r)⟩⟩
  · split at e
    · cases e
      refine ⟨_, call_tuple_of, fun ρ H ws R hx Q P => ?_⟩
      obtain ⟨v, rfl, hv⟩ := hx.one'
      cases hv with
      | ref hp => obtain ⟨us, s, r⟩ := R.lsts hp (by assumption); exact ⟨_, _, rfl, .inl ⟨s, fun l hn => P.newT R r hn⟩⟩
    · cases e
  · split at e
    · cases e
      rename_i v _ xs hs
      refine ⟨_, call_list_of, fun ρ H ws R hx Q P => ?_⟩
      obtain ⟨v, rfl, hv⟩ := hx.one'
      cases hv with
      | tup s r => simp only [seqs, Option.some.injEq] at hs; subst hs; exact ⟨_, _, rfl, .inr s, fun l hn => P.newL R r hn⟩
      | ref hp => obtain ⟨us, s, r⟩ := R.lsts hp hs; exact ⟨_, _, rfl, .inl s, fun l hn => P.newL R r hn⟩
      | _ => simp [seqs] at hs
    · cases e
  · cases e
    refine ⟨_, call_int1, fun ρ H ws R hx Q P => ?_⟩
    obtain ⟨v, rfl, hv⟩ := hx.one'
    cases hv; exact .inl ⟨_, rfl, P.same R (.int _)⟩
  · cases e
    refine ⟨_, call_int1, fun ρ H ws R hx Q P => ?_⟩
    obtain ⟨v, rfl, hv⟩ := hx.one'
    cases hv; exact .inr ⟨_, rfl, P.same R (.int _)⟩
  · split at e
    · cases e
      refine ⟨_, call_str_int, fun ρ H ws R hx Q P => ?_⟩
      obtain ⟨v, rfl, hv⟩ := hx.one'
      cases hv; exact ⟨_, rfl, by assumption, P.same R (.str _)⟩
    · cases e
  · cases e
    refine ⟨_, SkE.call_str_str, fun ρ H ws R hx Q P => ?_⟩
    obtain ⟨v, rfl, hv⟩ := hx.one'
    cases hv; exact ⟨_, rfl, P.same R (.str _)⟩
  · split at e
    · cases e
      rename_i v _ s hs
      cases hd : snap mh v with
      | none => rw [hd] at hs; cases hs
      | some d =>
        rw [hd] at hs
        refine ⟨_, call_reprD hg hu, fun ρ H ws R hx Q P => ?_⟩
        obtain ⟨w, rfl, hv⟩ := hx.one'
        exact ⟨_, d, s, rfl, snap_dp R hv hd, hs, P.same R (.str _)⟩
    · cases e
  · cases e
    refine ⟨_, call_abs, fun ρ H ws R hx Q P => ?_⟩
    obtain ⟨v, rfl, hv⟩ := hx.one'
    cases hv; exact ⟨_, rfl, P.same R (.int _)⟩
  · cases e
    refine ⟨_, call_max2 hc, fun ρ H ws R hx Q P => ?_⟩
    obtain ⟨v, w, rfl, hv, hw⟩ := hx.two'
    cases hv; cases hw; exact ⟨_, _, rfl, P.same R (.int _)⟩
  · cases e
    refine ⟨_, call_min2 hc, fun ρ H ws R hx Q P => ?_⟩
    obtain ⟨v, w, rfl, hv, hw⟩ := hx.two'
    cases hv; cases hw; exact ⟨_, _, rfl, P.same R (.int _)⟩
  · split at e
    · cases e
      rename_i a _ ns hs
      obtain ⟨xs, h1, h2⟩ := lsts_some hs
      refine ⟨_, cr_sortedI, fun ρ H ws R hx Q P => ?_⟩
      obtain ⟨v, rfl, hv⟩ := hx.one'
      cases hv with
      | ref hp =>
        obtain ⟨us, s, r⟩ := R.lsts hp h1
        have := r.ints h2
        subst this
        refine ⟨_, ns, rfl, s, fun ns' p hp1 hp2 hn => ?_⟩
        have hm : ns' = ns.mergeSort fun x y => decide (x ≤ y) := by
          refine PySem.W.ksm_same (hp1.trans (List.mergeSort_perm _ _).symm) hp2 ?_
          have hs := List.pairwise_mergeSort (le := fun x y : Int => decide (x ≤ y)) (fun a b c h1 h2 => by simp at *; omega) (fun a b => by simp; omega) ns
          exact hs.imp fun h => by simpa using h
        rw [hm]
        exact P.newL R (Reps.ofInts _) hn
    · cases e
  · cases e
/-! ### isinstance -/
theorem isiS {mx : MV} {t : Ty} {mh : MH} {b : Bool} (e : isiM mx t mh = some b) {ρ : List Addr} {H : Hp} {x : V} (R : RepH X.K ρ mh H) (hx : Rep X.K ρ H mx x) : ∃ a : String, TyX X.K H x (.type a) ∧ kitB a t.tn = some b := by
  have k : ∀ (a : String) (c : Bool), kitB a t.tn = some c → ∀ {x}, TyX X.K H x (.type a) → some c = some b → ∃ a : String, TyX X.K H x (.type a) ∧ kitB a t.tn = some b := fun a c h x h2 e => ⟨a, h2, by rw [h]; exact e⟩
  cases hx with
  | non => refine k "NoneType" false ?_ (.base .non) (by simpa [isiM] using e); cases t <;> decide +kernel
  | bl c =>
    cases t
    · exact k "bool" true (by decide +kernel) (.base (.bl _)) e
    · exact k "bool" true (by decide +kernel) (.base (.bl _)) e
    all_goals exact k "bool" false (by decide +kernel) (.base (.bl _)) e
  | int i =>
    cases t
    · exact k "int" true (by decide +kernel) (.base (.int _)) e
    all_goals exact k "int" false (by decide +kernel) (.base (.int _)) e
  | str i =>
    cases t
    case str => exact k "str" true (by decide +kernel) (.base (.str _)) e
    all_goals exact k "str" false (by decide +kernel) (.base (.str _)) e
  | @tup _ p _ s r =>
    have h1 : TyX X.K H (.ref p) (.type "tuple") := by
      rcases s with (s | ⟨o, s⟩) | ⟨o, its, n, s, c, _⟩
      · exact .base (.tup s)
      · exact .fTuple s
      · exact .kTuple s c
    cases t
    case tuple => exact k "tuple" true (by decide +kernel) h1 e
    all_goals exact k "tuple" false (by decide +kernel) h1 e
  | @ref _ p hp =>
    simp only [isiM] at e
    split at e
    · obtain ⟨vs, h1, _⟩ := R.lst hp (by assumption)
      have h1 : TyX X.K H (.ref p) (.type "list") := .base (.lst h1)
      cases t
      case list => exact k "list" true (by decide +kernel) h1 e
      all_goals exact k "list" false (by decide +kernel) h1 e
    · obtain ⟨vs, h1, _⟩ := R.dct hp (by assumption)
      have h1 : TyX X.K H (.ref p) (.type "dict") := .base (.dK h1)
      cases t
      case dict => exact k "dict" true (by decide +kernel) h1 e
      all_goals exact k "dict" false (by decide +kernel) h1 e
    · cases e
/-! ### methods of lists -/
def Me.nm : Me → Str
  | .append => "append" | .extend => "extend" | .pop => "pop" | .insert => "insert" | .count => "count" | .index => "index" | .reverse => "reverse" | .get => "get" | .items => "items" | .join => "join" | .split => "split" | .remove => "remove" | .clear => "clear" | .copy => "copy"
def LmS (X : Cx) (m : Me) (a : Nat) (vs : List MV) (mh : MH) (mv : MV) (mh' : MH) : Prop :=
  ∃ id r, Slot "list" m.nm id ∧ typeOf (.builtin id) = pure (.type "method_descriptor") ∧ MtR X id r ∧ ∀ ρ H p ws, RepH X.K ρ mh H → ρ[a]? = some p → Reps X.K ρ H vs ws → ∀ Q : VK, Post X.K ρ mh H mv mh' Q → r (.ref p) ws H Q
theorem setP {K : PySem.W.Frag} {ρ : List Addr} {mh : MH} {H : Hp} {a : Nat} {p : Addr} {xs ys : List MV} {ws : List V} {mv : MV} {v : V} {Q : VK} (R : RepH K ρ mh H) (hp : ρ[a]? = some p) (e : mh[a]? = some (.lst xs)) (r : Reps K ρ H ys ws)
    (hv : Rep K ρ H mv v) (P : Post K ρ mh H mv (mh.set a (.lst ys)) Q) : Q v (upd H p (.lst ws)) := by
  obtain ⟨b1, b2⟩ := R.set (o' := .lst ys) (ho := .lst ws) hp e rfl rfl (fun H' k e' => ⟨_, e', Reps.mono' (List.prefix_refl _) k _ _ r⟩)
  exact P _ _ _ b1 (hv.stp R b2) b2
theorem lmS (hc : X.calm = true) {m : Me} {a : Nat} {vs : List MV} {mv : MV} {mh mh' : MH} (e : methM m .list (.ref a) vs mh = .ok mv mh') : LmS X m a vs mh mv mh' := by
  have hl := lineM_le
  simp only [methM] at e
  split at e
  · rename_i xs _ ea _
    split at e
    · split at e
      · cases e
        refine ⟨_, _, PySem.F.slot_list_append, PySem.F.type_list_append, mt_append, fun ρ H p ws R hp hx Q P => ?_⟩
        obtain ⟨v, rfl, hv⟩ := hx.one'
        obtain ⟨us, h1, r⟩ := R.lst hp ea
        have ln := r.length
        exact ⟨_, _, _, rfl, rfl, h1, by omega, setP R hp ea (r.append (.one hv)) .non P⟩
      · cases e
    · split at e
      · split at e
        · cases e
          rename_i b ys eb _
          refine ⟨_, _, PySem.F.slot_list_extend, PySem.F.type_list_extend, mt_extend, fun ρ H p ws R hp hx Q P => ?_⟩
          obtain ⟨v, rfl, hv⟩ := hx.one'
          obtain ⟨us, h1, r⟩ := R.lst hp ea
          cases hv with
          | ref hb =>
            obtain ⟨us2, h2, r2⟩ := R.lst hb eb
            have ln := r.length; have ln2 := r2.length
            exact ⟨_, _, _, _, rfl, rfl, h1, h2, by omega, setP R hp ea (r.append r2) .non P⟩
        · cases e
      · cases e
    · split at e
      · cases e
        rename_i y hy
        refine ⟨_, _, PySem.F.slot_list_pop, PySem.F.type_list_pop, mt_pop, fun ρ H p ws R hp hx Q P => ?_⟩
        cases hx
        obtain ⟨us, h1, r⟩ := R.lst hp ea
        obtain ⟨v, g, hv⟩ := r.get hy
        exact ⟨_, _, v, rfl, rfl, h1, by rw [← r.length]; exact g, setP R hp ea r.dropLast hv P⟩
      · cases e
    · split at e
      · cases e
        rename_i i y hy
        split at hy
        · rename_i hi
          refine ⟨_, _, PySem.F.slot_list_pop, PySem.F.type_list_pop, mt_popAt, fun ρ H p ws R hp hx Q P => ?_⟩
          obtain ⟨v, rfl, hv⟩ := hx.one'
          cases hv
          obtain ⟨us, h1, r⟩ := R.lst hp ea
          obtain ⟨v, g, hv⟩ := r.get hy
          have hlt : i.toNat < us.length := (List.getElem?_eq_some_iff.mp g).1
          have hix : ixN us.length i = some i.toNat := by
            unfold ixN
            rw [if_pos hi.1, if_pos (by omega)]
          exact ⟨_, _, _, _, v, rfl, rfl, h1, by omega, by omega, (ixN_seq hix).1, g, setP R hp ea (r.eraseIdx _) hv P⟩
        · cases hy
      · cases e
    · split at e
      · cases e
        rename_i hi
        refine ⟨_, _, PySem.F.slot_list_insert, PySem.F.type_list_insert, mt_insert, fun ρ H p ws R hp hx Q P => ?_⟩
        obtain ⟨v, w, rfl, hv, hw⟩ := hx.two'
        cases hv
        obtain ⟨us, h1, r⟩ := R.lst hp ea
        have ln := r.length
        exact ⟨_, _, _, _, rfl, rfl, h1, by omega, hi.2.1, by omega, setP R hp ea (((r.take _).append (.one hw)).append (r.drop _)) .non P⟩
      · cases e
    · cases e
      refine ⟨_, _, PySem.F.slot_list_reverse, PySem.F.type_list_reverse, mt_reverse, fun ρ H p ws R hp hx Q P => ?_⟩
      cases hx
      obtain ⟨us, h1, r⟩ := R.lst hp ea
      exact ⟨_, _, rfl, rfl, h1, setP R hp ea r.reverse .non P⟩
    · cases e
      refine ⟨_, _, PySem.F.slot_list_clear, PySem.F.type_list_clear, mt_clear, fun ρ H p ws R hp hx Q P => ?_⟩
      cases hx
      obtain ⟨us, h1, r⟩ := R.lst hp ea
      exact ⟨_, _, rfl, rfl, h1, setP R hp ea .nil .non P⟩
    · cases e
  · rename_i h; cases h
  · cases e
end
end Mn

set_option maxHeartbeats 4000000
/-! Snd: expressions: what the small evaluator says, the model does. -/
namespace Mn
open PySem PySem.Spec PyProof.Rows L2

structure RepS (K : PySem.W.Frag) (ρ : List Addr) (H : Hp) (mσ : MS') (σ : L2.St) : Prop where
  len : σ.length = mσ.length
  get : ∀ (i : Nat) (m : MV), mσ[i]? = some (some m) → ∃ v, σ[i]? = some (some v) ∧ Rep K ρ H m v
section
variable {K : PySem.W.Frag} {ρ ρ' : List Addr} {mh mh' : MH} {H H' : Hp} {mσ : MS'} {σ : L2.St}
theorem RepS.stp (S : RepS K ρ H mσ σ) (R : RepH K ρ mh H) (T : Stp ρ mh H ρ' mh' H') : RepS K ρ' H' mσ σ := ⟨S.len, fun i m e => by
  obtain ⟨v, h1, h2⟩ := S.get i m e
  exact ⟨v, h1, h2.stp R T⟩⟩
theorem RepS.set (S : RepS K ρ H mσ σ) {m : MV} {v : V} (r : Rep K ρ H m v) (i : Nat) : RepS K ρ H (mσ.set i (some m)) (σ.set i (some v)) := by
  refine ⟨by simp [S.len], fun j m' e => ?_⟩
  by_cases h : j = i
  · subst h
    by_cases hl : j < mσ.length
    · rw [List.getElem?_set_self hl] at e
      cases e
      rw [List.getElem?_set_self (by rw [S.len]; exact hl)]
      exact ⟨v, rfl, r⟩
    · rw [List.getElem?_eq_none (by simp; omega)] at e; cases e
  · rw [List.getElem?_set_ne (Ne.symm h)] at e ⊢
    exact S.get j m' e
theorem bind_ok {α β : Type} {r : R α} {f : α → MH → R β} {b : β} {h : MH} (e : r.bind f = .ok b h) : ∃ a h1, r = .ok a h1 ∧ f a h1 = .ok b h := by
  cases r with
  | ok a h1 => exact ⟨a, h1, rfl, e⟩
  | exc _ _ _ => cases e
  | bad => cases e
end
section
variable (X : Cx)
def tS (e : Expr) : TE := fun σ H Q => ∃ t, PE X e t ∧ t σ H Q
def tT (e : Expr) : TT := fun σ H Q => ∃ t, PT X e t ∧ t σ H Q
def tW (e : Expr) : TT := fun σ H Q => ∃ t, PW X e t ∧ t σ H Q
def tA (es : List Expr) : TA := fun σ H Q => ∃ t, PA X es t ∧ t σ H Q
def tSS (s : List Stmt) : TS := fun D σ H => ∃ t, PSs X s t ∧ t D σ H
def tS1 (s : Stmt) : TS := fun D σ H => ∃ t, PS X s t ∧ t D σ H
end
section
variable {X : Cx}
theorem pe_tS {e : Expr} : PE X e (tS X e) := ⟨fun pins s σ H Q I ⟨_, h, q⟩ => h.run pins s σ H Q I q⟩
theorem pt_tT {e : Expr} : PT X e (tT X e) := ⟨fun pins s σ H Q I ⟨_, h, q⟩ => h.run pins s σ H Q I q⟩
theorem pw_tW {e : Expr} : PW X e (tW X e) := ⟨fun w pins s σ H Q I ⟨_, h, q⟩ => h.run w pins s σ H Q I q⟩
theorem pa_tA {es : List Expr} : PA X es (tA X es) := ⟨fun p pins s σ H Q I ⟨_, h, q⟩ => h.run p pins s σ H Q I q⟩
theorem pss_tSS {s : List Stmt} : PSs X s (tSS X s) := ⟨fun pins t σ H Q I ⟨_, h, q⟩ => h.run pins t σ H Q I q⟩
theorem ps_tS1 {s : Stmt} : PS X s (tS1 X s) := ⟨fun pins t σ H Q I ⟨_, h, q⟩ => h.run pins t σ H Q I q⟩
end
theorem op_void {X : Cx} {f : Value → Value → Sem Value} : OpR X f (fun _ _ _ _ => False) := fun _ _ _ _ _ _ _ _ _ _ _ _ h => h.elim
def SE (X : Cx) (M : Cm) (e : Expr) (me : ME) : Prop :=
  ∀ σ H mσ mh ρ, RepH X.K ρ mh H → RepS X.K ρ H mσ σ → ∀ mv mh', evE M me mσ mh = .ok mv mh' → ∀ Q, Post X.K ρ mh H mv mh' Q → tS X e σ H Q
def ST (X : Cx) (M : Cm) (e : Expr) (me : ME) : Prop :=
  ∀ σ H mσ mh ρ, RepH X.K ρ mh H → RepS X.K ρ H mσ σ → ∀ mv mh', evE M me mσ mh = .ok mv mh' → ∀ b, truth mh' mv = some b → ∀ Q, (∀ H' ρ', RepH X.K ρ' mh' H' → Stp ρ mh H ρ' mh' H' → Q b H') → tT X e σ H Q
def SW (X : Cx) (M : Cm) (e : Expr) (me : ME) : Prop :=
  ∀ σ H mσ mh ρ, RepH X.K ρ mh H → RepS X.K ρ H mσ σ → ∀ mv mh', evE M me mσ mh = .ok mv mh' → ∀ b, truth mh' mv = some b → ∀ Q, (∀ H' ρ', RepH X.K ρ' mh' H' → Stp ρ mh H ρ' mh' H' → Q b H') → tW X e σ H Q
def SA (X : Cx) (M : Cm) (es : List Expr) (mes : List ME) : Prop :=
  ∀ σ H mσ mh ρ, RepH X.K ρ mh H → RepS X.K ρ H mσ σ → ∀ vs mh', evEs M mes mσ mh = .ok vs mh' → ∀ Q, (∀ ws H' ρ', RepH X.K ρ' mh' H' → Reps X.K ρ' H' vs ws → Stp ρ mh H ρ' mh' H' → Q ws H') → tA X es σ H Q
section
variable {X : Cx} {M : Cm} {a b c : Expr} {ma mb mc : ME} {pos : Pos}
/-! ### constants and names -/
theorem se_c {v : MV} {w : V} (h : PE X a (tC w)) (r : ∀ ρ H, Rep X.K ρ H v w) : SE X M a (.c v) := by
  intro σ H mσ mh ρ R S mv mh' e Q P
  simp only [evE] at e
  cases e
  exact ⟨_, h, P.same R (r ρ H)⟩
theorem se_var {i : Nat} {x : Str} (hN : X.N[i]? = some x) (hv : Vis X.env.scope x) (hd : (x == ("__debug__" : Str)) = false) (hcd : (x == ("__classdict__" : Str)) = false) : SE X M (.Name x pos) (.var i) := by
  intro σ H mσ mh ρ R S mv mh' e Q P
  simp only [evE] at e
  split at e
  · cases e
    obtain ⟨v, h1, h2⟩ := S.get i _ (by assumption)
    exact ⟨_, pe_var hN hv hd hcd, v, h1, P.same R h2⟩
  · cases e
theorem se_glb {x : Str} {u : Value} {w : V} (hg : Gl X x) (hm : X.mg x = some u) (ru : RelV w u) (hd : (x == ("__debug__" : Str)) = false) (r : ∀ v, M.gl x = some v → ∀ ρ H, Rep X.K ρ H v w) : SE X M (.Name x pos) (.glb x) := by
  intro σ H mσ mh ρ R S mv mh' e Q P
  simp only [evE] at e
  cases h : M.gl x with
  | none => rw [h] at e; cases e
  | some v => rw [h] at e; cases e; exact ⟨_, pe_glob hg hm ru hd, P.same R (r _ h ρ H)⟩
/-! ### operators -/
theorem se_bin {op : Operator} (ha : SE X M a ma) (hb : SE X M b mb) : SE X M (.BinOp a op b pos) (.bin op ma mb) := by
  intro σ H mσ mh ρ R S mv mh' e Q P
  simp only [evE] at e
  obtain ⟨x, h1, e1, e⟩ := bind_ok e
  obtain ⟨y, h2, e2, e⟩ := bind_ok e
  obtain ⟨r, hr, hq⟩ := binS (X := X) e
  refine ⟨_, pe_op hr pe_tS pe_tS, ?_⟩
  refine ha σ H mσ mh ρ R S x h1 e1 _ fun v H1 ρ1 R1 r1 S1 => ?_
  refine hb σ H1 mσ h1 ρ1 R1 (S.stp R S1) y h2 e2 _ fun w H2 ρ2 R2 r2 S2 => ?_
  exact hq ρ2 H2 v w R2 (r1.stp R1 S2) r2 Q (P.after (S1.trans S2))
theorem se_neg (ha : SE X M a ma) : SE X M (.UnaryOp .USub a pos) (.neg ma) := by
  intro σ H mσ mh ρ R S mv mh' e Q P
  simp only [evE] at e
  obtain ⟨x, h1, e1, e⟩ := bind_ok e
  refine ⟨_, pe_un un_neg pe_tS, ?_⟩
  refine ha σ H mσ mh ρ R S x h1 e1 _ fun v H1 ρ1 R1 r1 S1 => ?_
  cases x <;> simp only at e <;> cases e
  cases r1
  exact ⟨_, rfl, P _ _ _ R1 (.int _) S1⟩
theorem ofB_ok {o : Option Bool} {h h' : MH} {v : MV} (e : ofB o h = .ok v h') : ∃ b, o = some b ∧ v = .bl b ∧ h' = h := by
  cases o with
  | none => cases e
  | some b => cases e; exact ⟨b, rfl, rfl, rfl⟩
theorem se_cmp (hu : X.A.units + 65 < cLine) {op : CmpOp} (hm : behindInMarks op b = false) (ha : SE X M a ma) (hb : SE X M b mb) : SE X M (.Compare a [op] [b] pos) (.cmp op ma mb) := by
  intro σ H mσ mh ρ R S mv mh' e Q P
  simp only [evE] at e
  obtain ⟨x, h1, e1, e⟩ := bind_ok e
  obtain ⟨y, h2, e2, e⟩ := bind_ok e
  obtain ⟨k, e3, rfl, rfl⟩ := ofB_ok e
  obtain ⟨r, hr, hq⟩ := cmpS (X := X) hu e3
  refine ⟨_, pe_cmpR hr pe_tS pe_tS hm, ?_⟩
  refine ha σ H mσ mh ρ R S x h1 e1 _ fun v H1 ρ1 R1 r1 S1 => ?_
  refine hb σ H1 mσ h1 ρ1 R1 (S.stp R S1) y _ e2 _ fun w H2 ρ2 R2 r2 S2 => ?_
  exact hq ρ2 H2 v w R2 (r1.stp R1 S2) r2 Q (P _ _ _ R2 (.bl _) (S1.trans S2))
theorem se_chain (hu : X.A.units + 65 < cLine) {o1 o2 : CmpOp} (hm : lastMarks [o1, o2] [b, c] = false) (ha : SE X M a ma) (hb : SE X M b mb) (hc : SE X M c mc) : SE X M (.Compare a [o1, o2] [b, c] pos) (.chain o1 o2 ma mb mc) := by
  intro σ H mσ mh ρ R S mv mh' e Q P
  simp only [evE] at e
  obtain ⟨x, h1, e1, e⟩ := bind_ok e
  obtain ⟨y, h2, e2, e⟩ := bind_ok e
  split at e
  · obtain ⟨z, h3, e4, e⟩ := bind_ok e
    obtain ⟨k, e5, rfl, rfl⟩ := ofB_ok e
    obtain ⟨r, hr, hq⟩ := cmpS (X := X) hu ‹cmpM o1 x y h2 = _›
    obtain ⟨r', hr', hq'⟩ := cmpS (X := X) hu e5
    refine ⟨_, pe_chain hr hr' pe_tS pe_tS pe_tS hm, ?_⟩
    refine ha σ H mσ mh ρ R S x h1 e1 _ fun v H1 ρ1 R1 r1 S1 => ?_
    refine hb σ H1 mσ h1 ρ1 R1 (S.stp R S1) y _ e2 _ fun w H2 ρ2 R2 r2 S2 => ?_
    refine hq ρ2 H2 v w R2 (r1.stp R1 S2) r2 _ ⟨_, rfl, ?_⟩
    rw [if_pos rfl]
    refine hc σ H2 mσ h2 ρ2 R2 ((S.stp R S1).stp R1 S2) z _ e4 _ fun w3 H3 ρ3 R3 r3 S3 => ?_
    exact hq' ρ3 H3 w w3 R3 (r2.stp R2 S3) r3 Q (P _ _ _ R3 (.bl _) ((S1.trans S2).trans S3))
  · cases e
    obtain ⟨r, hr, hq⟩ := cmpS (X := X) hu ‹cmpM o1 x y mh' = _›
    refine ⟨_, pe_chain hr op_void pe_tS pe_tS pe_tS hm, ?_⟩
    refine ha σ H mσ mh ρ R S x h1 e1 _ fun v H1 ρ1 R1 r1 S1 => ?_
    refine hb σ H1 mσ h1 ρ1 R1 (S.stp R S1) y _ e2 _ fun w H2 ρ2 R2 r2 S2 => ?_
    refine hq ρ2 H2 v w R2 (r1.stp R1 S2) r2 _ ⟨_, rfl, ?_⟩
    rw [if_neg Bool.false_ne_true]
    exact P _ _ _ R2 (.bl _) (S1.trans S2)
  · cases e
/-! ### truth -/
theorem se_not (ha : SE X M a ma) : SE X M (.UnaryOp .Not a pos) (.not_ ma) := by
  intro σ H mσ mh ρ R S mv mh' e Q P
  simp only [evE] at e
  obtain ⟨x, h1, e1, e⟩ := bind_ok e
  split at e
  · cases e
    refine ⟨_, pe_notT pe_tS, ?_⟩
    refine ha σ H mσ mh ρ R S x _ e1 _ fun v H1 ρ1 R1 r1 S1 => ⟨_, truV R1 r1 (by assumption), P _ _ _ R1 (.bl _) S1⟩
  · cases e
theorem se_and {rest : List Expr} (ha : SE X M a ma) (hb : SE X M (.BoolOp .And (b :: rest) pos) mb) : SE X M (.BoolOp .And (a :: b :: rest) pos) (.and_ ma mb) := by
  intro σ H mσ mh ρ R S mv mh' e Q P
  simp only [evE] at e
  obtain ⟨x, h1, e1, e⟩ := bind_ok e
  refine ⟨_, pe_andT pe_tS pe_tS, ?_⟩
  refine ha σ H mσ mh ρ R S x h1 e1 _ fun v H1 ρ1 R1 r1 S1 => ?_
  split at e
  · refine ⟨_, truV R1 r1 (by assumption), ?_⟩
    rw [if_pos rfl]
    exact hb σ H1 mσ h1 ρ1 R1 (S.stp R S1) mv mh' e Q (P.after S1)
  · cases e
    refine ⟨_, truV R1 r1 (by assumption), ?_⟩
    rw [if_neg Bool.false_ne_true]
    exact P _ _ _ R1 r1 S1
  · cases e
theorem se_or {rest : List Expr} (ha : SE X M a ma) (hb : SE X M (.BoolOp .Or (b :: rest) pos) mb) : SE X M (.BoolOp .Or (a :: b :: rest) pos) (.or_ ma mb) := by
  intro σ H mσ mh ρ R S mv mh' e Q P
  simp only [evE] at e
  obtain ⟨x, h1, e1, e⟩ := bind_ok e
  refine ⟨_, pe_orT pe_tS pe_tS, ?_⟩
  refine ha σ H mσ mh ρ R S x h1 e1 _ fun v H1 ρ1 R1 r1 S1 => ?_
  split at e
  · cases e
    refine ⟨_, truV R1 r1 (by assumption), ?_⟩
    rw [if_pos rfl]
    exact P _ _ _ R1 r1 S1
  · refine ⟨_, truV R1 r1 (by assumption), ?_⟩
    rw [if_neg Bool.false_ne_true]
    exact hb σ H1 mσ h1 ρ1 R1 (S.stp R S1) mv mh' e Q (P.after S1)
  · cases e
theorem se_one {op : BoolOp} (ha : SE X M a ma) : SE X M (.BoolOp op [a] pos) ma := by
  intro σ H mσ mh ρ R S mv mh' e Q P
  obtain ⟨t, h, q⟩ := ha σ H mσ mh ρ R S mv mh' e Q P
  exact ⟨_, pe_one h, q⟩
theorem se_ife (hc : ST X M c mc) (ha : SE X M a ma) (hb : SE X M b mb) : SE X M (.IfExp c a b pos) (.ife mc ma mb) := by
  intro σ H mσ mh ρ R S mv mh' e Q P
  simp only [evE] at e
  obtain ⟨x, h1, e1, e⟩ := bind_ok e
  refine ⟨_, pe_ifExp pt_tT pe_tS pe_tS, ?_⟩
  split at e
  · refine hc σ H mσ mh ρ R S x h1 e1 true (by assumption) _ fun H1 ρ1 R1 S1 => ?_
    rw [if_pos rfl]
    exact ha σ H1 mσ h1 ρ1 R1 (S.stp R S1) mv mh' e Q (P.after S1)
  · refine hc σ H mσ mh ρ R S x h1 e1 false (by assumption) _ fun H1 ρ1 R1 S1 => ?_
    rw [if_neg Bool.false_ne_true]
    exact hb σ H1 mσ h1 ρ1 R1 (S.stp R S1) mv mh' e Q (P.after S1)
  · cases e
/-! ### tests -/
theorem st_plain (ha : SE X M a ma) (he : ∀ whole, isTrue a X.env whole = (do let v ← whole; standAt a.pos; holding [v] (truthy v))) : ST X M a ma := by
  intro σ H mσ mh ρ R S mv mh' e k hk Q P
  refine ⟨_, pt_truth pe_tS he, ?_⟩
  exact ha σ H mσ mh ρ R S mv mh' e _ fun v H1 ρ1 R1 r1 S1 => ⟨k, truV R1 r1 hk, P H1 ρ1 R1 S1⟩
theorem st_not (ha : ST X M a ma) : ST X M (.UnaryOp .Not a pos) (.not_ ma) := by
  intro σ H mσ mh ρ R S mv mh' e k hk Q P
  simp only [evE] at e
  obtain ⟨x, h1, e1, e⟩ := bind_ok e
  split at e
  · cases e
    simp only [truth, Option.some.injEq] at hk
    subst hk
    refine ⟨_, pt_not pt_tT, ?_⟩
    exact ha σ H mσ mh ρ R S x _ e1 _ (by assumption) _ fun H1 ρ1 R1 S1 => P H1 ρ1 R1 S1
  · cases e
theorem st_cmp (hu : X.A.units + 65 < cLine) {op : CmpOp} (hm : behindInMarks op b = false) (ha : SE X M a ma) (hb : SE X M b mb) : ST X M (.Compare a [op] [b] pos) (.cmp op ma mb) := by
  intro σ H mσ mh ρ R S mv mh' e k hk Q P
  simp only [evE] at e
  obtain ⟨x, h1, e1, e⟩ := bind_ok e
  obtain ⟨y, h2, e2, e⟩ := bind_ok e
  obtain ⟨k', e3, rfl, rfl⟩ := ofB_ok e
  simp only [truth, Option.some.injEq] at hk
  subst hk
  obtain ⟨r, hr, hq⟩ := cmpS (X := X) hu e3
  refine ⟨_, pt_cmpR hr pe_tS pe_tS hm, ?_⟩
  refine ha σ H mσ mh ρ R S x h1 e1 _ fun v H1 ρ1 R1 r1 S1 => ?_
  refine hb σ H1 mσ h1 ρ1 R1 (S.stp R S1) y _ e2 _ fun w H2 ρ2 R2 r2 S2 => ?_
  exact hq ρ2 H2 v w R2 (r1.stp R1 S2) r2 _ ⟨_, rfl, P _ _ R2 (S1.trans S2)⟩
theorem st_chain (hu : X.A.units + 65 < cLine) {o1 o2 : CmpOp} (hm : lastMarks [o1, o2] [b, c] = false) (ha : SE X M a ma) (hb : SE X M b mb) (hc : SE X M c mc) : ST X M (.Compare a [o1, o2] [b, c] pos) (.chain o1 o2 ma mb mc) := by
  intro σ H mσ mh ρ R S mv mh' e k hk Q P
  simp only [evE] at e
  obtain ⟨x, h1, e1, e⟩ := bind_ok e
  obtain ⟨y, h2, e2, e⟩ := bind_ok e
  split at e
  · obtain ⟨z, h3, e4, e⟩ := bind_ok e
    obtain ⟨k', e5, rfl, rfl⟩ := ofB_ok e
    simp only [truth, Option.some.injEq] at hk
    subst hk
    obtain ⟨r, hr, hq⟩ := cmpS (X := X) hu ‹cmpM o1 x y h2 = _›
    obtain ⟨r', hr', hq'⟩ := cmpS (X := X) hu e5
    refine ⟨_, pt_chain hr hr' pe_tS pe_tS pe_tS hm, ?_⟩
    refine ha σ H mσ mh ρ R S x h1 e1 _ fun v H1 ρ1 R1 r1 S1 => ?_
    refine hb σ H1 mσ h1 ρ1 R1 (S.stp R S1) y _ e2 _ fun w H2 ρ2 R2 r2 S2 => ?_
    refine hq ρ2 H2 v w R2 (r1.stp R1 S2) r2 _ ⟨_, rfl, ?_⟩
    rw [if_pos rfl]
    refine hc σ H2 mσ h2 ρ2 R2 ((S.stp R S1).stp R1 S2) z _ e4 _ fun w3 H3 ρ3 R3 r3 S3 => ?_
    exact hq' ρ3 H3 w w3 R3 (r2.stp R2 S3) r3 _ ⟨_, rfl, P _ _ R3 ((S1.trans S2).trans S3)⟩
  · cases e
    simp only [truth, Option.some.injEq] at hk
    subst hk
    obtain ⟨r, hr, hq⟩ := cmpS (X := X) hu ‹cmpM o1 x y mh' = _›
    refine ⟨_, pt_chain hr op_void pe_tS pe_tS pe_tS hm, ?_⟩
    refine ha σ H mσ mh ρ R S x h1 e1 _ fun v H1 ρ1 R1 r1 S1 => ?_
    refine hb σ H1 mσ h1 ρ1 R1 (S.stp R S1) y _ e2 _ fun w H2 ρ2 R2 r2 S2 => ?_
    refine hq ρ2 H2 v w R2 (r1.stp R1 S2) r2 _ ⟨_, rfl, ?_⟩
    rw [if_neg Bool.false_ne_true]
    exact ⟨_, rfl, P _ _ R2 (S1.trans S2)⟩
  · cases e
theorem sw_st (h : SW X M a ma) : ST X M a ma := by
  intro σ H mσ mh ρ R S mv mh' e k hk Q P
  obtain ⟨t, h1, q⟩ := h σ H mσ mh ρ R S mv mh' e k hk Q P
  exact ⟨t, h1.pt, q⟩
theorem sw_one {op : BoolOp} (ha : ST X M a ma) : SW X M (.BoolOp op [a] pos) ma := by
  intro σ H mσ mh ρ R S mv mh' e k hk Q P
  obtain ⟨t, h1, q⟩ := ha σ H mσ mh ρ R S mv mh' e k hk Q P
  cases op
  · exact ⟨t, pw_and1 h1, q⟩
  · exact ⟨t, pw_or1 h1, q⟩
theorem sw_and {rest : List Expr} (ha : ST X M a ma) (hb : SW X M (.BoolOp .And (b :: rest) pos) mb) : SW X M (.BoolOp .And (a :: b :: rest) pos) (.and_ ma mb) := by
  intro σ H mσ mh ρ R S mv mh' e k hk Q P
  simp only [evE] at e
  obtain ⟨x, h1, e1, e⟩ := bind_ok e
  refine ⟨_, pw_and pt_tT pw_tW, ?_⟩
  split at e
  · refine ha σ H mσ mh ρ R S x h1 e1 true (by assumption) _ fun H1 ρ1 R1 S1 => ?_
    rw [if_pos rfl]
    exact hb σ H1 mσ h1 ρ1 R1 (S.stp R S1) mv mh' e k hk Q fun H2 ρ2 R2 S2 => P H2 ρ2 R2 (S1.trans S2)
  · cases e
    refine ha σ H mσ mh ρ R S _ _ e1 false (by assumption) _ fun H1 ρ1 R1 S1 => ?_
    rw [if_neg Bool.false_ne_true]
    have : k = false := Option.some.inj (hk.symm.trans ‹truth mh' mv = some false›)
    subst this
    exact P H1 ρ1 R1 S1
  · cases e
theorem sw_or {rest : List Expr} (ha : ST X M a ma) (hb : SW X M (.BoolOp .Or (b :: rest) pos) mb) : SW X M (.BoolOp .Or (a :: b :: rest) pos) (.or_ ma mb) := by
  intro σ H mσ mh ρ R S mv mh' e k hk Q P
  simp only [evE] at e
  obtain ⟨x, h1, e1, e⟩ := bind_ok e
  refine ⟨_, pw_or pt_tT pw_tW, ?_⟩
  split at e
  · cases e
    refine ha σ H mσ mh ρ R S _ _ e1 true (by assumption) _ fun H1 ρ1 R1 S1 => ?_
    rw [if_pos rfl]
    have : k = true := Option.some.inj (hk.symm.trans ‹truth mh' mv = some true›)
    subst this
    exact P H1 ρ1 R1 S1
  · refine ha σ H mσ mh ρ R S x h1 e1 false (by assumption) _ fun H1 ρ1 R1 S1 => ?_
    rw [if_neg Bool.false_ne_true]
    exact hb σ H1 mσ h1 ρ1 R1 (S.stp R S1) mv mh' e k hk Q fun H2 ρ2 R2 S2 => P H2 ρ2 R2 (S1.trans S2)
  · cases e
/-! ### arguments, displays -/
theorem sa_nil : SA X M [] [] := by
  intro σ H mσ mh ρ R S vs mh' e Q P
  simp only [evEs] at e
  cases e
  exact ⟨_, pa_nil, P [] H ρ R .nil .refl⟩
theorem sa_cons {es : List Expr} {mes : List ME} (hs : starEach (a :: es) X.env = (false, eval a X.env) :: starEach es X.env) (ha : SE X M a ma) (hr : SA X M es mes) : SA X M (a :: es) (ma :: mes) := by
  intro σ H mσ mh ρ R S vs mh' e Q P
  simp only [evEs] at e
  obtain ⟨x, h1, e1, e⟩ := bind_ok e
  obtain ⟨xs, h2, e2, e⟩ := bind_ok e
  cases e
  refine ⟨_, pa_cons pe_tS pa_tA hs, ?_⟩
  refine ha σ H mσ mh ρ R S x h1 e1 _ fun v H1 ρ1 R1 r1 S1 => ?_
  exact hr σ H1 mσ h1 ρ1 R1 (S.stp R S1) xs _ e2 _ fun ws H2 ρ2 R2 r2 S2 => P _ H2 ρ2 R2 (.cons (r1.stp R1 S2) r2) (S1.trans S2)
theorem se_tup {es : List Expr} {mes : List ME} {n : Nat} (hn : mes.length ≤ lineM) (h : SA X M es mes) : SE X M (.Tuple es n pos) (.tup mes) := by
  intro σ H mσ mh ρ R S mv mh' e Q P
  simp only [evE] at e
  obtain ⟨xs, h1, e1, e⟩ := bind_ok e
  cases e
  refine ⟨_, pe_tup pa_tA, ?_⟩
  have hl := lineM_le
  have hlen : ∀ {mes : List ME} {mσ : MS'} {mh : MH} {xs : List MV} {h1 : MH}, evEs M mes mσ mh = .ok xs h1 → xs.length = mes.length := by
    intro mes
    induction mes with
    | nil => intro _ _ _ _ e; simp only [evEs] at e; cases e; rfl
    | cons m ms ih =>
      intro _ _ _ _ e
      simp only [evEs] at e
      obtain ⟨x, h1, e1, e⟩ := bind_ok e
      obtain ⟨xs, h2, e2, e⟩ := bind_ok e
      cases e
      simp [ih e2]
  refine h σ H mσ mh ρ R S xs _ e1 _ fun ws H1 ρ1 R1 r1 S1 => ⟨?_, fun p hp => (P.after S1).newT R1 r1 hp⟩
  rw [← r1.length, hlen e1]; omega
theorem evEs_len {mes : List ME} {mσ : MS'} {mh : MH} {xs : List MV} {h1 : MH} (e : evEs M mes mσ mh = .ok xs h1) : xs.length = mes.length := by
  induction mes generalizing mσ mh xs h1 with
  | nil => simp only [evEs] at e; cases e; rfl
  | cons m ms ih =>
    simp only [evEs] at e
    obtain ⟨x, h1, e1, e⟩ := bind_ok e
    obtain ⟨xs, h2, e2, e⟩ := bind_ok e
    cases e
    simp [ih e2]
theorem se_lst {es : List Expr} {mes : List ME} (hn : mes.length ≤ lineM) (h : SA X M es mes) : SE X M (.List es pos) (.lst mes) := by
  intro σ H mσ mh ρ R S mv mh' e Q P
  simp only [evE] at e
  obtain ⟨xs, h1, e1, e⟩ := bind_ok e
  cases e
  have hl := lineM_le
  refine ⟨_, pe_lst pa_tA, ?_⟩
  refine h σ H mσ mh ρ R S xs _ e1 _ fun ws H1 ρ1 R1 r1 S1 => ⟨?_, fun p hp => (P.after S1).newL R1 r1 hp⟩
  rw [← r1.length, evEs_len e1]; omega
/-! ### subscripts, slices -/
theorem se_ix (hu : X.A.units + 1 < cLine) (hs : PlainIx b) (hs2 : NoSl b) (ha : SE X M a ma) (hb : SE X M b mb) : SE X M (.Subscript a b pos) (.ix ma mb) := by
  intro σ H mσ mh ρ R S mv mh' e Q P
  simp only [evE] at e
  obtain ⟨x, h1, e1, e⟩ := bind_ok e
  obtain ⟨y, h2, e2, e⟩ := bind_ok e
  by_cases hd : ∃ a kvs, x = .ref a ∧ h2[a]? = some (.dct kvs)
  · obtain ⟨i, kvs, rfl, hd⟩ := hd
    obtain ⟨rfl, hq⟩ := ixSd (X := X) e hd
    refine ⟨_, pe_dget hu pe_tS pe_tS hs2, ?_⟩
    refine ha σ H mσ mh ρ R S _ h1 e1 _ fun v H1 ρ1 R1 r1 S1 => ?_
    refine hb σ H1 mσ h1 ρ1 R1 (S.stp R S1) y _ e2 _ fun w H2 ρ2 R2 r2 S2 => ?_
    obtain ⟨p, u, e3, g, r⟩ := hq ρ2 H2 v w R2 (r1.stp R1 S2) r2
    exact ⟨p, u, e3, g, P _ _ _ R2 r (S1.trans S2)⟩
  · obtain ⟨rfl, hq⟩ := ixS (X := X) e fun a kvs e1 e2 => hd ⟨a, kvs, e1, e2⟩
    refine ⟨_, pe_ix ix_seq pe_tS pe_tS hs, ?_⟩
    refine ha σ H mσ mh ρ R S _ h1 e1 _ fun v H1 ρ1 R1 r1 S1 => ?_
    refine hb σ H1 mσ h1 ρ1 R1 (S.stp R S1) y _ e2 _ fun w H2 ρ2 R2 r2 S2 => ?_
    exact hq ρ2 H2 v w R2 (r1.stp R1 S2) r2 Q fun u r => P _ _ _ R2 r (S1.trans S2)
theorem se_sl {p2 : Pos} (ha : SE X M a ma) : SE X M (.Subscript a (.Slice none none none p2) pos) (.sl ma) := by
  intro σ H mσ mh ρ R S mv mh' e Q P
  simp only [evE] at e
  obtain ⟨x, h1, e1, e⟩ := bind_ok e
  obtain ⟨r, hr, hq⟩ := slS (X := X) e
  refine ⟨_, pe_slice hr pe_tS po_none po_none, ?_⟩
  exact ha σ H mσ mh ρ R S _ h1 e1 _ fun v H1 ρ1 R1 r1 S1 => hq ρ1 H1 v R1 r1 Q (P.after S1)
theorem se_slL {p2 : Pos} (ha : SE X M a ma) (hb : SE X M b mb) : SE X M (.Subscript a (.Slice (some b) none none p2) pos) (.slL ma mb) := by
  intro σ H mσ mh ρ R S mv mh' e Q P
  simp only [evE] at e
  obtain ⟨x, h1, e1, e⟩ := bind_ok e
  obtain ⟨y, h2, e2, e⟩ := bind_ok e
  cases y <;> simp only at e <;> try cases e
  obtain ⟨r, hr, hq⟩ := slS (X := X) e
  refine ⟨_, pe_slice hr pe_tS (po_some pe_tS) po_none, ?_⟩
  refine ha σ H mσ mh ρ R S _ h1 e1 _ fun v H1 ρ1 R1 r1 S1 => ?_
  refine hb σ H1 mσ h1 ρ1 R1 (S.stp R S1) _ _ e2 _ fun w H2 ρ2 R2 r2 S2 => ?_
  cases r2
  exact ⟨_, rfl, hq ρ2 H2 v R2 (r1.stp R1 S2) Q (P.after (S1.trans S2))⟩
theorem se_slH {p2 : Pos} (ha : SE X M a ma) (hb : SE X M b mb) : SE X M (.Subscript a (.Slice none (some b) none p2) pos) (.slH ma mb) := by
  intro σ H mσ mh ρ R S mv mh' e Q P
  simp only [evE] at e
  obtain ⟨x, h1, e1, e⟩ := bind_ok e
  obtain ⟨y, h2, e2, e⟩ := bind_ok e
  cases y <;> simp only at e <;> try cases e
  obtain ⟨r, hr, hq⟩ := slS (X := X) e
  refine ⟨_, pe_slice hr pe_tS po_none (po_some pe_tS), ?_⟩
  refine ha σ H mσ mh ρ R S _ h1 e1 _ fun v H1 ρ1 R1 r1 S1 => ?_
  refine hb σ H1 mσ h1 ρ1 R1 (S.stp R S1) _ _ e2 _ fun w H2 ρ2 R2 r2 S2 => ?_
  cases r2
  exact ⟨_, rfl, hq ρ2 H2 v R2 (r1.stp R1 S2) Q (P.after (S1.trans S2))⟩
theorem se_slB {p2 : Pos} (ha : SE X M a ma) (hb : SE X M b mb) (hc : SE X M c mc) : SE X M (.Subscript a (.Slice (some b) (some c) none p2) pos) (.slB ma mb mc) := by
  intro σ H mσ mh ρ R S mv mh' e Q P
  simp only [evE] at e
  obtain ⟨x, h1, e1, e⟩ := bind_ok e
  obtain ⟨y, h2, e2, e⟩ := bind_ok e
  cases y <;> simp only at e <;> try cases e
  obtain ⟨z, h3, e3, e⟩ := bind_ok e
  cases z <;> simp only at e <;> try cases e
  obtain ⟨r, hr, hq⟩ := slS (X := X) e
  refine ⟨_, pe_slice hr pe_tS (po_some pe_tS) (po_some pe_tS), ?_⟩
  refine ha σ H mσ mh ρ R S _ h1 e1 _ fun v H1 ρ1 R1 r1 S1 => ?_
  refine hb σ H1 mσ h1 ρ1 R1 (S.stp R S1) _ _ e2 _ fun w H2 ρ2 R2 r2 S2 => ?_
  cases r2
  refine ⟨_, rfl, hc σ H2 mσ h2 ρ2 R2 ((S.stp R S1).stp R1 S2) _ _ e3 _ fun w3 H3 ρ3 R3 r3 S3 => ?_⟩
  cases r3
  exact ⟨_, rfl, hq ρ3 H3 v R3 ((r1.stp R1 S2).stp R2 S3) Q (P.after ((S1.trans S2).trans S3))⟩
/-! ### built-ins -/
theorem se_blt (hcalm : X.calm = true) (hG : X.A.guards = some []) (hu : X.A.units + 100 < cLine) {bi : Bi} {es : List Expr} {mes : List ME} {p : Pos} (hg : Gl X bi.nm) (hm : X.mg bi.nm = none)
    (he : starEach (a :: es) X.env = (false, eval a X.env) :: starEach es X.env) (hpl : (backTo pos (starEach es X.env)).any (·.1) = false) (h : SA X M (a :: es) mes) : SE X M (.Call (.Name bi.nm p) (a :: es) [] pos) (.blt bi mes) := by
  intro σ H mσ mh ρ R S mv mh' e Q P
  simp only [evE] at e
  obtain ⟨xs, h1, e1, e⟩ := bind_ok e
  obtain ⟨r, hr, hq⟩ := bltS (X := X) hcalm hG hu e
  have fin : tCB r (tA X (a :: es)) σ H Q := h σ H mσ mh ρ R S xs _ e1 _ fun ws H1 ρ1 R1 r1 S1 => hq ρ1 H1 ws R1 r1 Q (P.after S1)
  cases bi
  case tuple => exact ⟨_, pe_callTy hr hg hm (by decide +kernel) pa_tA (by decide) (by decide) he hpl, fin⟩
  case list => exact ⟨_, pe_callTy hr hg hm (by decide +kernel) pa_tA (by decide) (by decide) he hpl, fin⟩
  case int => exact ⟨_, pe_callTy hr hg hm (by decide +kernel) pa_tA (by decide) (by decide) he hpl, fin⟩
  case str => exact ⟨_, pe_callTy hr hg hm (by decide +kernel) pa_tA (by decide) (by decide) he hpl, fin⟩
  all_goals exact ⟨_, pe_callB hr hg hm (by decide +kernel) pa_tA (by decide) (by decide) he hpl, fin⟩
theorem se_isi {t : Ty} {p p2 : Pos} (hg : Gl X "isinstance") (hm : X.mg "isinstance" = none) (hg2 : Gl X t.nm) (hm2 : X.mg t.nm = none)
    (he : starEach [a, .Name t.nm p2] X.env = (false, eval a X.env) :: starEach [.Name t.nm p2] X.env) (ha : SE X M a ma) : SE X M (.Call (.Name "isinstance" p) [a, .Name t.nm p2] [] pos) (.isi ma t) := by
  intro σ H mσ mh ρ R S mv mh' e Q P
  simp only [evE] at e
  obtain ⟨x, h1, e1, e⟩ := bind_ok e
  obtain ⟨k, e3, rfl, rfl⟩ := ofB_ok e
  have hT : PE X (.Name t.nm p2) (tC (.ty t.tn)) := by
    cases t <;> exact pe_bltn hg2 hm2 (u := .type _) (by decide +kernel) rfl (by decide) (by decide)
  refine ⟨_, pe_callB call_isi hg hm (by decide +kernel) (pa_cons pe_tS (pa_cons hT pa_nil rfl) he) (by decide) (by decide) he rfl, ?_⟩
  refine ha σ H mσ mh ρ R S x _ e1 _ fun v H1 ρ1 R1 r1 S1 => ?_
  obtain ⟨n, h1, h2⟩ := isiS (X := X) e3 R1 r1
  exact ⟨v, .ty t.tn, _, _, _, rfl, .ty _, h1, kit_ty h2, P _ _ _ R1 (.bl _) S1⟩
end
end Mn

set_option maxHeartbeats 4000000
/-! Snd2: what loops walk, comprehensions, calls, statements. -/
namespace Mn
open PySem PySem.Spec PyProof.Rows L2

/-! ### a list that is being made -/
section
variable {K : PySem.W.Frag} {ρ ρ' : List Addr} {mh mh' m0 : MH} {H H' H0 : Hp} {D : Addr} {acc : List V} {ho : HO}
/-- neither a tuple nor locked -/
def Loose : HO → Prop
  | .tup _ => False
  | .frz _ _ => False
  | _ => True
theorem SqT.out {q : Addr} {vs : List V} {o0 : HO} (hD : H D = some o0) (hL : Loose o0) (h : SqT K H q vs) : SqT K (upd H D ho) q vs := by
  rcases h with h | h
  · refine .inl ?_
    rcases h with h | ⟨u, h⟩
    · exact .inl (by rw [upd_ne (ne_of h hD (by intro z; subst z; exact hL))]; exact h)
    · exact .inr ⟨u, by rw [upd_ne (ne_of h hD (by intro z; subst z; exact hL))]; exact h⟩
  · exact .inr h
theorem RepH.out {o0 : HO} (R : RepH K ρ mh H) (hD : H D = some o0) (hL : Loose o0) (nm : ¬ Mu ρ mh D) : RepH K ρ mh (upd H D ho) := by
  have ht : ∀ q vs, SqT K H q vs → SqT K (upd H D ho) q vs := fun q vs h => SqT.out hD hL h
  refine ⟨R.len, R.inj, fun a q o e1 e2 => ?_⟩
  have h := R.obj a q o e1 e2
  have ne : o.mut = true → q ≠ D := fun m z => by subst z; exact nm ⟨a, o, e1, e2, m⟩
  cases o with
  | lst xs => obtain ⟨vs, z, r⟩ := h; exact ⟨vs, by rw [upd_ne (ne rfl)]; exact z, Reps.mono' (List.prefix_refl _) ht _ _ r⟩
  | fro xs => obtain ⟨vs, z, r⟩ := h; exact ⟨vs, z.at fun o u e => by rw [upd_ne (ne_of e hD (by intro z; subst z; exact hL))]; exact e, Reps.mono' (List.prefix_refl _) ht _ _ r⟩
  | dct xs => obtain ⟨vs, z, r⟩ := h; exact ⟨vs, by rw [upd_ne (ne rfl)]; exact z, KReps.mono' (List.prefix_refl _) ht r⟩
theorem Stp.out (S : Stp ρ m0 H0 ρ' mh' H) (hn : H0 D = none) : Stp ρ m0 H0 ρ' mh' (upd H D ho) :=
  ⟨S.pre, S.new, fun p o n e => by rw [upd_ne (ne_of_none e hn)]; exact S.frm p o n e⟩
/-- a place for what was made -/
theorem RepH.adoptO (R : RepH K ρ mh H) {mo : MO} (nm : ¬ Mu ρ mh D) (r : RepO K (ρ ++ [D]) H mo D) : RepH K (ρ ++ [D]) (mh ++ [mo]) H := by
  have pre : ρ <+: ρ ++ [D] := List.prefix_append _ _
  have ht : ∀ q vs, SqT K H q vs → SqT K H q vs := fun _ _ h => h
  have split : ∀ (a : Nat) (q : Addr) (u : MO), (ρ ++ [D])[a]? = some q → (mh ++ [mo])[a]? = some u → (ρ[a]? = some q ∧ mh[a]? = some u) ∨ (a = ρ.length ∧ q = D ∧ u = mo) := fun a q u e1 e2 => by
    by_cases h : a < ρ.length
    · rw [List.getElem?_append_left h] at e1
      rw [List.getElem?_append_left (by rw [← R.len]; exact h)] at e2
      exact .inl ⟨e1, e2⟩
    · have h1 : a < (ρ ++ [D]).length := (List.getElem?_eq_some_iff.mp e1).1
      have h2 : a = ρ.length := by simp at h1; omega
      subst h2
      simp at e1
      rw [R.len] at e2
      simp at e2
      exact .inr ⟨rfl, e1.symm, e2.symm⟩
  refine ⟨by simp [R.len], fun a b q oa ob e1 e2 e3 e4 m1 m2 => ?_, fun a q u e1 e2 => ?_⟩
  · rcases split a q oa e1 e3 with ⟨h1, h2⟩ | ⟨rfl, rfl, rfl⟩
    · rcases split b q ob e2 e4 with ⟨h3, h4⟩ | ⟨rfl, rfl, rfl⟩
      · exact R.inj a b q oa ob h1 h3 h2 h4 m1 m2
      · exact absurd ⟨a, oa, h1, h2, m1⟩ nm
    · rcases split b q ob e2 e4 with ⟨h3, h4⟩ | ⟨rfl, _, rfl⟩
      · exact absurd ⟨b, ob, h3, h4, m2⟩ nm
      · rfl
  · rcases split a q u e1 e2 with ⟨h1, h2⟩ | ⟨rfl, rfl, rfl⟩
    · have h := R.obj a q u h1 h2
      cases u with
      | lst xs => obtain ⟨vs, z, r⟩ := h; exact ⟨vs, z, Reps.mono' pre ht _ _ r⟩
      | fro xs => obtain ⟨vs, z, r⟩ := h; exact ⟨vs, z, Reps.mono' pre ht _ _ r⟩
      | dct xs => obtain ⟨vs, z, r⟩ := h; exact ⟨vs, z, KReps.mono' pre ht r⟩
    · exact r
theorem RepH.adopt (R : RepH K ρ mh H) {xs : List MV} (hD : H D = some (.lst acc)) (nm : ¬ Mu ρ mh D) (r : Reps K ρ H xs acc) : RepH K (ρ ++ [D]) (mh ++ [.lst xs]) H :=
  R.adoptO nm ⟨acc, hD, Reps.mono' (List.prefix_append _ _) (fun _ _ h => h) _ _ r⟩
theorem Mu.app {mo : MO} {p : Addr} (hl : ρ.length = mh.length) (m : Mu (ρ ++ [D]) (mh ++ [mo]) p) : Mu ρ mh p ∨ p = D := by
  obtain ⟨a, o, e1, e2, e3⟩ := m
  by_cases h : a < ρ.length
  · rw [List.getElem?_append_left h] at e1
    rw [List.getElem?_append_left (by rw [← hl]; exact h)] at e2
    exact .inl ⟨a, o, e1, e2, e3⟩
  · have h1 : a < (ρ ++ [D]).length := (List.getElem?_eq_some_iff.mp e1).1
    have h2 : a = ρ.length := by simp at h1; omega
    subst h2
    simp at e1
    exact .inr e1.symm
theorem Stp.adopt (S : Stp ρ m0 H0 ρ' mh' H) {mo : MO} (hl : ρ'.length = mh'.length) (hn : H0 D = none) : Stp ρ m0 H0 (ρ' ++ [D]) (mh' ++ [mo]) H :=
  ⟨S.pre.trans (List.prefix_append _ _), fun p m => by
    rcases m.app hl with m | rfl
    · exact S.new p m
    · exact .inr hn, S.frm⟩
/-- a fresh thing of no place -/
theorem RepH.fresh (R : RepH K ρ mh H) (hn : H D = none) : RepH K ρ mh (upd H D ho) ∧ ¬ Mu ρ mh D ∧ ∀ {xs vs}, Reps K ρ H xs vs → Reps K ρ (upd H D ho) xs vs := by
  have ht : ∀ q vs, SqT K H q vs → SqT K (upd H D ho) q vs := fun q vs h => by
    rcases h with h | h
    · refine .inl ?_
      rcases h with h | ⟨u, h⟩
      · exact .inl (by rw [upd_ne (ne_of_none h hn)]; exact h)
      · exact .inr ⟨u, by rw [upd_ne (ne_of_none h hn)]; exact h⟩
    · exact .inr h
  refine ⟨⟨R.len, R.inj, fun a q o f1 f2 => ?_⟩, fun m => ?_, fun r => Reps.mono' (List.prefix_refl _) ht _ _ r⟩
  · have h := R.obj a q o f1 f2
    cases o with
    | lst xs => obtain ⟨vs, z, r⟩ := h; exact ⟨vs, by rw [upd_ne (ne_of_none z hn)]; exact z, Reps.mono' (List.prefix_refl _) ht _ _ r⟩
    | fro xs => obtain ⟨vs, z, r⟩ := h; exact ⟨vs, z.at fun o u e => by rw [upd_ne (ne_of_none e hn)]; exact e, Reps.mono' (List.prefix_refl _) ht _ _ r⟩
    | dct xs => obtain ⟨vs, z, r⟩ := h; exact ⟨vs, by rw [upd_ne (ne_of_none z hn)]; exact z, KReps.mono' (List.prefix_refl _) ht r⟩
  · rcases R.mu m with ⟨_, z⟩ | ⟨_, z⟩ <;> (rw [hn] at z; cases z)
end

/-! ### what is walked -/
def ItOk (K : PySem.W.Frag) (it : It) (ρ0 : List Addr) (m0 : MH) (H0 : Hp) (J : L2.It) : Prop :=
  ∀ ρ mh H, RepH K ρ mh H → Stp ρ0 m0 H0 ρ mh H → ∀ i, (∀ n mv, turnI it mh i n = some mv → J.go i H ∧ ∀ x H', J.yld i H x H' → ∃ ρ', RepH K ρ' mh H' ∧ Stp ρ mh H ρ' mh H' ∧ Rep K ρ' H' mv x) ∧ (doneI it mh i = true → J.stop i H)
def tIt (X : Cx) (tg iter : Expr) : TI := fun σ H R => ∃ wi, PI X tg iter wi ∧ wi σ H R
theorem pi_tIt {X : Cx} {tg iter : Expr} : PI X tg iter (tIt X tg iter) := ⟨fun pins s σ H R I ⟨_, h, q⟩ => h.run pins s σ H R I q⟩
def SI (X : Cx) (M : Cm) (tg iter : Expr) (ik : IK) (ma mb : ME) : Prop :=
  ∀ σ H mσ mh ρ, RepH X.K ρ mh H → RepS X.K ρ H mσ σ → ∀ x h1 y h2 it, evE M ma mσ mh = .ok x h1 → evE M mb mσ h1 = .ok y h2 → itM ik x y h2 = some it →
    ∀ R : L2.It → Hp → Prop, (∀ J H' ρ', RepH X.K ρ' h2 H' → Stp ρ mh H ρ' h2 H' → ItOk X.K it ρ' h2 H' J → R J H') → tIt X tg iter σ H R
theorem turn_some {it : It} {h : MH} {i n : Nat} {mv : MV} (e : turnI it h i n = some mv) : ∃ xs, it.items h = some xs ∧ xs[i]? = some mv := by
  unfold turnI at e
  cases q : it.items h with
  | none => rw [q] at e; cases e
  | some xs =>
    rw [q] at e
    simp only [Option.bind_some] at e
    split at e
    · exact ⟨xs, rfl, e⟩
    · cases e
theorem done_some {it : It} {h : MH} {i : Nat} (e : doneI it h i = true) : ∃ xs, it.items h = some xs ∧ xs.length = i := by
  unfold doneI at e
  split at e
  · exact ⟨_, by assumption, by simpa using e⟩
  · cases e
section
variable {X : Cx} {M : Cm} {a b : Expr} {ma mb : ME} {tg : Expr} {K : PySem.W.Frag}
theorem itOk_tup {ρ0 : List Addr} {m0 : MH} {H0 : Hp} {p : Addr} {xs : List MV} {vs : List V} (R0 : RepH K ρ0 m0 H0) (s : SqT K H0 p vs) (r : Reps K ρ0 H0 xs vs) : ItOk K (.fix xs) ρ0 m0 H0 (Itt K p) := by
  intro ρ mh H R S i
  have s' := SqT.stp R0 S s
  have r' := r.stp R0 S
  refine ⟨fun n mv e => ?_, fun e => ?_⟩
  · obtain ⟨ys, h1, h2⟩ := turn_some e
    cases h1
    obtain ⟨v, g, hv⟩ := r'.get h2
    refine ⟨⟨vs, v, s', g⟩, fun x H' y => ?_⟩
    obtain ⟨rfl, y⟩ := y
    have : v = x := Option.some.inj (g.symm.trans (y vs s'))
    subst this
    exact ⟨ρ, R, .refl, hv⟩
  · obtain ⟨ys, h1, h2⟩ := done_some e
    cases h1
    exact ⟨vs, s', by rw [← r.length]; omega⟩
theorem itOk_live {ρ0 : List Addr} {m0 : MH} {H0 : Hp} {p : Addr} {l : Nat} (hp : ρ0[l]? = some p) : ItOk K (.live l) ρ0 m0 H0 (Itl K p) := by
  intro ρ mh H R S i
  have hp' := prefix_get S.pre hp
  refine ⟨fun n mv e => ?_, fun e => ?_⟩
  · obtain ⟨ys, h1, h2⟩ := turn_some e
    obtain ⟨vs, s', r'⟩ := R.lsts hp' h1
    obtain ⟨v, g, hv⟩ := r'.get h2
    refine ⟨⟨vs, v, s', g⟩, fun x H' y => ?_⟩
    obtain ⟨rfl, y⟩ := y
    have : v = x := Option.some.inj (g.symm.trans (y vs s'))
    subst this
    exact ⟨ρ, R, .refl, hv⟩
  · obtain ⟨ys, h1, h2⟩ := done_some e
    obtain ⟨vs, s', r'⟩ := R.lsts hp' h1
    exact ⟨vs, s', by rw [← r'.length]; omega⟩
theorem itOk_rng {ρ0 : List Addr} {m0 : MH} {H0 : Hp} {lo : Int} {n : Nat} : ItOk K (.fix (rngI lo n)) ρ0 m0 H0 (Itr lo n) := by
  intro ρ mh H R S i
  refine ⟨fun m mv e => ?_, fun e => ?_⟩
  · obtain ⟨ys, h1, h2⟩ := turn_some e
    cases h1
    have hlt : i < n := by
      have := (List.getElem?_eq_some_iff.mp h2).1
      simpa [rngI] using this
    have hv : mv = .int (lo + (i : Nat)) := by
      simp [rngI, List.getElem?_map, List.getElem?_range hlt] at h2
      exact h2.symm
    subst hv
    refine ⟨hlt, fun x H' y => ?_⟩
    obtain ⟨rfl, rfl⟩ := y
    exact ⟨ρ, R, .refl, .int _⟩
  · obtain ⟨ys, h1, h2⟩ := done_some e
    cases h1
    simp [rngI] at h2
    show n ≤ i
    omega
theorem si_val (ha : SE X M a ma) : SI X M tg a .val ma (.c .non) := by
  intro σ H mσ mh ρ R S x h1 y h2 it e1 e2 e3 Q P
  simp only [evE] at e2
  cases e2
  cases x with
  | tup xs =>
    simp only [itM, Option.some.injEq] at e3
    subst e3
    refine ⟨_, pi_tup pe_tS, ha σ H mσ mh ρ R S _ _ e1 _ fun v H1 ρ1 R1 r1 S1 => ?_⟩
    cases r1 with
    | tup s r => exact ⟨_, rfl, ⟨_, s⟩, P _ _ ρ1 R1 S1 (itOk_tup R1 s r)⟩
  | ref l =>
    simp only [itM] at e3
    cases hl : lsts h1 l with
    | none => rw [hl] at e3; cases e3
    | some xs =>
      rw [hl] at e3
      cases e3
      refine ⟨_, pi_list pe_tS, ha σ H mσ mh ρ R S _ _ e1 _ fun v H1 ρ1 R1 r1 S1 => ?_⟩
      cases r1 with
      | ref hp =>
        obtain ⟨vs, s, r⟩ := R1.lsts hp hl
        exact ⟨_, rfl, ⟨_, s⟩, P _ _ ρ1 R1 S1 (itOk_live hp)⟩
  | _ => simp [itM] at e3
theorem si_rng1 {p pos : Pos} (hg : Gl X "range") (hm : X.mg "range" = none) (hs : starEach [a] X.env = (false, eval a X.env) :: starEach [] X.env) (ha : SE X M a ma) : SI X M tg (.Call (.Name "range" p) [a] [] pos) .rng1 ma (.c .non) := by
  intro σ H mσ mh ρ R S x h1 y h2 it e1 e2 e3 Q P
  simp only [evE] at e2
  cases e2
  cases x <;> simp only [itM] at e3 <;> try cases e3
  split at e3
  · cases e3
    rename_i hj
    refine ⟨_, pi_range1 hg hm (pa_cons pe_tS pa_nil hs) hs, ha σ H mσ mh ρ R S _ _ e1 _ fun v H1 ρ1 R1 r1 S1 => ?_⟩
    cases r1
    exact ⟨_, rfl, hj.1, hj.2, P _ _ ρ1 R1 S1 itOk_rng⟩
  · cases e3
theorem si_rng2 {p pos : Pos} (hg : Gl X "range") (hm : X.mg "range" = none) (hs : starEach [a, b] X.env = (false, eval a X.env) :: starEach [b] X.env) (hs2 : starEach [b] X.env = (false, eval b X.env) :: starEach [] X.env)
    (ha : SE X M a ma) (hb : SE X M b mb) : SI X M tg (.Call (.Name "range" p) [a, b] [] pos) .rng2 ma mb := by
  intro σ H mσ mh ρ R S x h1 y h2 it e1 e2 e3 Q P
  cases x <;> simp only [itM] at e3 <;> try cases e3
  cases y <;> simp only at e3 <;> try cases e3
  split at e3
  · cases e3
    rename_i hj
    refine ⟨_, pi_range2 hg hm (pa_cons pe_tS (pa_cons pe_tS pa_nil hs2) hs) (by rw [hs, hs2]; rfl) (by rw [hs2]; rfl), ha σ H mσ mh ρ R S _ _ e1 _ fun v H1 ρ1 R1 r1 S1 => ?_⟩
    refine hb σ H1 mσ h1 ρ1 R1 (S.stp R S1) _ _ e2 _ fun w H2 ρ2 R2 r2 S2 => ?_
    cases r1; cases r2
    exact ⟨_, _, rfl, ⟨hj.1.1, hj.1.2, hj.2.1, hj.2.2⟩, P _ _ ρ2 R2 (S1.trans S2) itOk_rng⟩
  · cases e3
/-! ### enumerate, zip: the items come in new pairs -/
theorem pair_rep {ρ : List Addr} {mh : MH} {H : Hp} {T : Addr} {mx my : MV} {x y : V} (R : RepH K ρ mh H) (hn : H T = none) (rx : Rep K ρ H mx x) (ry : Rep K ρ H my y) :
    RepH K ρ mh (upd H T (.tup [x, y])) ∧ Stp ρ mh H ρ mh (upd H T (.tup [x, y])) ∧ Rep K ρ (upd H T (.tup [x, y])) (.tup [mx, my]) (.ref T) := R.tupl hn (.cons rx (.cons ry .nil))
theorem enum_get {xs : List MV} {i : Nat} {m : MV} (e : (enumI xs)[i]? = some m) : ∃ x, xs[i]? = some x ∧ m = .tup [.int (i : Nat), x] := by
  simp only [enumI, List.getElem?_mapIdx] at e
  cases h : xs[i]? with
  | none => rw [h] at e; cases e
  | some x => rw [h] at e; cases e; exact ⟨x, rfl, rfl⟩
theorem itOk_enumL {ρ0 : List Addr} {m0 : MH} {H0 : Hp} {p : Addr} {l : Nat} (hp : ρ0[l]? = some p) : ItOk K (.enumL l) ρ0 m0 H0 (Ite K p) := by
  intro ρ mh H R S i
  have hp' := prefix_get S.pre hp
  have it : ∀ ys, (It.enumL l).items mh = some ys → ∃ xs, lsts mh l = some xs ∧ ys = enumI xs := fun ys h => by
    simp only [It.items] at h
    cases q : lsts mh l with
    | none => rw [q] at h; cases h
    | some xs => rw [q] at h; cases h; exact ⟨xs, rfl, rfl⟩
  refine ⟨fun n mv e => ?_, fun e => ?_⟩
  · obtain ⟨ys, h1, h2⟩ := turn_some e
    obtain ⟨xs, g1, rfl⟩ := it ys h1
    obtain ⟨m, h3, rfl⟩ := enum_get h2
    obtain ⟨vs, s', r'⟩ := R.lsts hp' g1
    obtain ⟨v, g, hv⟩ := r'.get h3
    refine ⟨⟨vs, v, s', g⟩, fun x H' y => ?_⟩
    obtain ⟨T, z, rfl, hn, rfl, y⟩ := y
    have : v = z := Option.some.inj (g.symm.trans (y vs s'))
    subst this
    obtain ⟨a1, a2, a3⟩ := pair_rep R hn (.int (i : Nat)) hv
    exact ⟨ρ, a1, a2, a3⟩
  · obtain ⟨ys, h1, h2⟩ := done_some e
    obtain ⟨xs, g1, rfl⟩ := it ys h1
    obtain ⟨vs, s', r'⟩ := R.lsts hp' g1
    exact ⟨vs, s', by rw [← r'.length]; simp [enumI] at h2; omega⟩
theorem zip_get {xs ys : List MV} {i : Nat} {m : MV} (e : (zipI xs ys)[i]? = some m) : ∃ x y, xs[i]? = some x ∧ ys[i]? = some y ∧ m = .tup [x, y] := by
  simp only [zipI, List.getElem?_zipWith] at e
  split at e
  · cases e; exact ⟨_, _, by assumption, by assumption, rfl⟩
  · cases e
theorem itOk_zipL {ρ0 : List Addr} {m0 : MH} {H0 : Hp} {p q : Addr} {l k : Nat} (hp : ρ0[l]? = some p) (hq : ρ0[k]? = some q) : ItOk K (.zipLL l k) ρ0 m0 H0 (Itz K p q) := by
  intro ρ mh H R S i
  have hp' := prefix_get S.pre hp
  have hq' := prefix_get S.pre hq
  have it : ∀ zs, (It.zipLL l k).items mh = some zs → ∃ xs ys, lsts mh l = some xs ∧ lsts mh k = some ys ∧ zs = zipI xs ys := fun zs h => by
    simp only [It.items] at h
    split at h
    · cases h; exact ⟨_, _, by assumption, by assumption, rfl⟩
    · cases h
  refine ⟨fun n mv e => ?_, fun e => ?_⟩
  · obtain ⟨zs, h1, h2⟩ := turn_some e
    obtain ⟨xs, ys, g1, g1', rfl⟩ := it zs h1
    obtain ⟨m, m', h3, h4, rfl⟩ := zip_get h2
    obtain ⟨vs, s', r'⟩ := R.lsts hp' g1
    obtain ⟨ws, s2, r2⟩ := R.lsts hq' g1'
    obtain ⟨v, g, hv⟩ := r'.get h3
    obtain ⟨w, g2, hw⟩ := r2.get h4
    refine ⟨⟨vs, ws, v, w, s', s2, g, g2⟩, fun x H' y => ?_⟩
    obtain ⟨T, z, z2, rfl, hn, rfl, y1, y2⟩ := y
    have : v = z := Option.some.inj (g.symm.trans (y1 vs s'))
    subst this
    have : w = z2 := Option.some.inj (g2.symm.trans (y2 ws s2))
    subst this
    obtain ⟨a1, a2, a3⟩ := pair_rep R hn hv hw
    exact ⟨ρ, a1, a2, a3⟩
  · obtain ⟨zs, h1, h2⟩ := done_some e
    obtain ⟨xs, ys, g1, g1', rfl⟩ := it zs h1
    obtain ⟨vs, s', r'⟩ := R.lsts hp' g1
    obtain ⟨ws, s2, r2⟩ := R.lsts hq' g1'
    exact ⟨vs, ws, s', s2, by rw [← r'.length, ← r2.length]; simp [zipI] at h2; omega⟩
theorem itOk_zipF {ρ0 : List Addr} {m0 : MH} {H0 : Hp} {p q : Addr} {xs ys : List MV} {vs ws : List V} (R0 : RepH K ρ0 m0 H0) (s : SqT K H0 p vs) (r : Reps K ρ0 H0 xs vs) (s2 : SqT K H0 q ws) (r2 : Reps K ρ0 H0 ys ws) : ItOk K (.zipFF xs ys) ρ0 m0 H0 (RZ.ItzT K p q) := by
  intro ρ mh H R S i
  have s' := SqT.stp R0 S s
  have r' := r.stp R0 S
  have s2' := SqT.stp R0 S s2
  have r2' := r2.stp R0 S
  refine ⟨fun n mv e => ?_, fun e => ?_⟩
  · obtain ⟨zs, h1, h2⟩ := turn_some e
    cases h1
    obtain ⟨m, m', h3, h4, rfl⟩ := zip_get h2
    obtain ⟨v, g, hv⟩ := r'.get h3
    obtain ⟨w, g2, hw⟩ := r2'.get h4
    refine ⟨⟨vs, ws, v, w, s', s2', g, g2⟩, fun x H' y => ?_⟩
    obtain ⟨T, z, z2, rfl, hn, rfl, y1, y2⟩ := y
    have : v = z := Option.some.inj (g.symm.trans (y1 vs s'))
    subst this
    have : w = z2 := Option.some.inj (g2.symm.trans (y2 ws s2'))
    subst this
    obtain ⟨a1, a2, a3⟩ := pair_rep R hn hv hw
    exact ⟨ρ, a1, a2, a3⟩
  · obtain ⟨zs, h1, h2⟩ := done_some e
    cases h1
    exact ⟨vs, ws, s', s2', by rw [← r.length, ← r2.length]; simp [zipI] at h2; omega⟩
/-! ### targets -/
def tGt (X : Cx) (tg : Expr) : TG := fun v σ H Q => ∃ t, PG X tg t ∧ t v σ H Q
def tGts (X : Cx) (tgs : List Expr) : TGs := fun v σ H Q => ∃ t, PGs X tgs t ∧ t v σ H Q
theorem pg_tGt {X : Cx} {tg : Expr} : PG X tg (tGt X tg) := ⟨fun pins s σ H v u Q I r ⟨_, h, q⟩ => h.run pins s σ H v u Q I r q⟩
def SG (X : Cx) (tg : Expr) (mt : MT) : Prop :=
  ∀ σ H mσ mσ' mh ρ v mv, RepH X.K ρ mh H → RepS X.K ρ H mσ σ → Rep X.K ρ H mv v → asgT mt mv mσ = some mσ' → ∀ Q : L2.St → Hp → Prop,
    (∀ σ', RepS X.K ρ H mσ' σ' → (∀ i, i ∉ mt.slots → σ'[i]? = σ[i]?) → Q σ' H) → tGt X tg v σ H Q
def SGs (X : Cx) (tgs : List Expr) (mts : List MT) : Prop :=
  ((assignEach tgs X.env).length = mts.length ∧ (assignEach tgs X.env).findIdx? (·.1) = none) ∧
  ∀ σ H mσ mσ' mh ρ vs mvs, RepH X.K ρ mh H → RepS X.K ρ H mσ σ → Reps X.K ρ H mvs vs → mvs.length = mts.length → asgTs mts mvs mσ = some mσ' → ∀ Q : L2.St → Hp → Prop,
    (∀ σ', RepS X.K ρ H mσ' σ' → (∀ i, i ∉ MT.slotss mts → σ'[i]? = σ[i]?) → Q σ' H) → tGts X tgs vs σ H Q
theorem pgs_tGts {X : Cx} {tgs : List Expr} : PGs X tgs (tGts X tgs) := ⟨fun pins s σ H v u Q I r ⟨_, h, q⟩ => h.run pins s σ H v u Q I r q⟩
theorem sg_nm {i : Nat} {x : Str} {pos : Pos} (hN : X.N.Nodup) (hi : X.N[i]? = some x) (hx : Loc X.env.scope x) (hf : X.fn x = true ∨ X.env.scope.names.lookup x = some .local) : SG X (.Name x pos) (.nm i) := by
  intro σ H mσ mσ' mh ρ v mv R S r e Q P
  simp only [asgT, Option.some.injEq] at e
  subst e
  exact ⟨_, pg_name hN hi hx hf, P _ (S.set r i) fun j hj => List.getElem?_set_ne (by simp [MT.slots] at hj; omega)⟩
theorem sgs_nil : SGs X [] [] := by
  refine ⟨⟨rfl, rfl⟩, fun σ H mσ mσ' mh ρ vs mvs R S r hl e Q P => ?_⟩
  simp only [asgTs, Option.some.injEq] at e
  subst e
  cases mvs with
  | nil => cases r; exact ⟨_, pgs_nil, rfl, P _ S fun _ _ => rfl⟩
  | cons _ _ => simp at hl
theorem sgs_cons {t : Expr} {ts : List Expr} {mt : MT} {mts : List MT} (hs : assignEach (t :: ts) X.env = (false, assign t X.env) :: assignEach ts X.env) (h1 : SG X t mt) (h2 : SGs X ts mts) : SGs X (t :: ts) (mt :: mts) := by
  obtain ⟨⟨g1, g2⟩, g3⟩ := h2
  refine ⟨⟨by rw [hs]; simp [g1], by rw [hs]; simp [List.findIdx?_cons, g2]⟩, fun σ H mσ mσ' mh ρ vs mvs R S r hl e Q P => ?_⟩
  cases mvs with
  | nil => simp at hl
  | cons m ms =>
    cases r with
    | cons ra rb =>
      simp only [asgTs] at e
      cases q : asgT mt m mσ with
      | none => rw [q] at e; cases e
      | some mσ1 =>
        rw [q] at e
        refine ⟨_, pgs_cons pg_tGt pgs_tGts (by rw [hs]; rfl), _, _, rfl, ?_⟩
        refine h1 σ H mσ mσ1 mh ρ _ m R S ra q _ fun σ1 S1 k1 => ?_
        refine g3 σ1 H mσ1 mσ' mh ρ _ ms R S1 rb (by simpa using hl) e _ fun σ2 S2 k2 => ?_
        refine P σ2 S2 fun i hi => ?_
        simp only [MT.slotss, List.mem_append, not_or] at hi
        rw [k2 i hi.2, k1 i hi.1]
theorem sg_tp {ts : List Expr} {mts : List MT} {n : Nat} {pos : Pos} (hc : X.calm = true) (h : SGs X ts mts) : SG X (.Tuple ts n pos) (.tp mts) := by
  intro σ H mσ mσ' mh ρ v mv R S r e Q P
  obtain ⟨⟨g1, g2⟩, g3⟩ := h
  cases r <;> simp only [asgT] at e <;> try cases e
  rename_i xs p vs s r
  split at e
  · rename_i hl
    refine ⟨_, pg_tup hc pgs_tGts g1 g2, p, vs, rfl, s, by rw [← r.length]; exact hl, ?_⟩
    exact g3 σ H mσ mσ' mh ρ vs xs R S r hl e Q P
  · cases e
mutual
theorem asgT_len : ∀ {mt : MT} {v : MV} {σ σ' : MS'}, asgT mt v σ = some σ' → σ'.length = σ.length
  | .nm i, v, σ, σ', e => by simp only [asgT, Option.some.injEq] at e; subst e; simp
  | .tp ts, v, σ, σ', e => by
    cases v <;> simp only [asgT] at e <;> try cases e
    split at e
    · exact asgTs_len e
    · cases e
theorem asgTs_len : ∀ {mt : List MT} {v : List MV} {σ σ' : MS'}, asgTs mt v σ = some σ' → σ'.length = σ.length
  | [], v, σ, σ', e => by simp only [asgTs, Option.some.injEq] at e; subst e; rfl
  | t :: ts, [], σ, σ', e => by simp [asgTs] at e
  | t :: ts, x :: xs, σ, σ', e => by
    simp only [asgTs] at e
    cases q : asgT t x σ with
    | none => rw [q] at e; cases e
    | some σ1 => rw [q] at e; rw [asgTs_len (mt := ts) (v := xs) e, asgT_len q]
end
/-! ### comprehensions -/
theorem wipe_rep {ρ : List Addr} {H : Hp} {mσ : MS'} {σ : L2.St} (S : RepS K ρ H mσ σ) : ∀ own : List Nat, RepS K ρ H (wipeM mσ own) (wipe σ own)
  | [] => S
  | v :: vs => by
    have ih := wipe_rep S vs
    refine ⟨by simp [wipe, wipeM, ih.len], fun i m e => ?_⟩
    simp only [wipeM] at e
    simp only [wipe]
    by_cases h : i = v
    · subst h
      by_cases hl : i < (wipeM mσ vs).length
      · rw [List.getElem?_set_self hl] at e; cases e
      · rw [List.getElem?_eq_none (by simp; omega)] at e; cases e
    · rw [List.getElem?_set_ne (Ne.symm h)] at e ⊢
      exact ih.get i m e
theorem wipe_get {σ : L2.St} : ∀ (vs : List Nat) (i : Nat), (wipe σ vs)[i]? = if i ∈ vs ∧ i < σ.length then some none else σ[i]?
  | [], i => by simp [wipe]
  | v :: vs, i => by
    simp only [wipe]
    by_cases h : i = v
    · subst h
      by_cases hl : i < σ.length
      · rw [List.getElem?_set_self (by rw [wipe_length]; exact hl)]; simp [hl]
      · rw [List.getElem?_eq_none (by simp [wipe_length]; omega)]; simp [hl]
    · rw [List.getElem?_set_ne (Ne.symm h), wipe_get vs i]
      simp [h]
theorem wipe_eq {σ σ' : L2.St} {vs sl : List Nat} (hl : σ'.length = σ.length) (hs : ∀ i ∈ sl, i ∈ vs) (k : ∀ i, i ∉ sl → σ'[i]? = (wipe σ vs)[i]?) : wipe σ' vs = wipe σ vs := by
  apply List.ext_getElem?
  intro i
  rw [wipe_get, wipe_get]
  by_cases h : i ∈ vs
  · by_cases h2 : i < σ.length
    · simp [h, h2, hl]
    · simp only [h, h2, hl, and_false, if_false]
      rw [List.getElem?_eq_none (by omega), List.getElem?_eq_none (by omega)]
  · have h3 : i ∉ sl := fun z => h (hs i z)
    simp only [h, false_and, if_false]
    rw [k i h3, wipe_get]; simp [h]
def STs (X : Cx) (M : Cm) (ifs : List Expr) (mifs : List ME) : Prop := (ifs = [] ∧ mifs = []) ∨ ∃ c mc, ifs = [c] ∧ mifs = [mc] ∧ ST X M c mc
def tTs (X : Cx) (ifs : List Expr) : TT := fun σ H Q => ∃ t, PTs X ifs t ∧ t σ H Q
theorem pts_tTs {X : Cx} {ifs : List Expr} : PTs X ifs (tTs X ifs) := ⟨fun pins s σ H Q I ⟨_, h, q⟩ => h.run pins s σ H Q I q⟩
theorem sts_run {ifs : List Expr} {mifs : List ME} (h : STs X M ifs mifs) {σ : L2.St} {H : Hp} {mσ : MS'} {mh mh' : MH} {ρ : List Addr} (R : RepH X.K ρ mh H) (S : RepS X.K ρ H mσ σ) {k : Bool} (e : evTs M mifs mσ mh = .ok k mh') {Q : Bool → Hp → Prop}
    (P : ∀ H' ρ', RepH X.K ρ' mh' H' → Stp ρ mh H ρ' mh' H' → Q k H') : tTs X ifs σ H Q := by
  rcases h with ⟨rfl, rfl⟩ | ⟨c, mc, rfl, rfl, h⟩
  · simp only [evTs] at e
    cases e
    exact ⟨_, pts_nil, P H ρ R .refl⟩
  · simp only [evTs] at e
    obtain ⟨x, h1, e1, e⟩ := bind_ok e
    split at e
    · cases e
      exact ⟨_, pts_one pt_tT, h σ H mσ mh ρ R S x _ e1 true (by assumption) _ P⟩
    · cases e
      exact ⟨_, pts_one pt_tT, h σ H mσ mh ρ R S x _ e1 false (by assumption) _ P⟩
    · cases e
def gLc (X : Cx) (scope : Scope) (tg : Expr) : TG := fun v σ H Q => ∀ (s : Shared) (Hh : Hp) (C : Addr) (cl : List (Str × Addr)) (fp : List Addr), tGt (X.blk s Hh scope (compEnvC scope cl C X.env) fp) tg v σ H Q
def ttLc (X : Cx) (scope : Scope) (ifs : List Expr) : TT := fun σ H Q => ∀ (s : Shared) (Hh : Hp) (C : Addr) (cl : List (Str × Addr)) (fp : List Addr), tTs (X.blk s Hh scope (compEnvC scope cl C X.env) fp) ifs σ H Q
def teLc (X : Cx) (scope : Scope) (elt : Expr) : TE := fun σ H Q => ∀ (s : Shared) (Hh : Hp) (C : Addr) (cl : List (Str × Addr)) (fp : List Addr), tS (X.blk s Hh scope (compEnvC scope cl C X.env) fp) elt σ H Q
theorem gLc_ok {scope : Scope} {tg : Expr} (s : Shared) (Hh : Hp) (C : Addr) (cl : List (Str × Addr)) (fp : List Addr) : PG (X.blk s Hh scope (compEnvC scope cl C X.env) fp) tg (gLc X scope tg) := ⟨fun pins s' σ H v u Q I r q => pg_tGt.run pins s' σ H v u Q I r (q s Hh C cl fp)⟩
theorem ttLc_ok {scope : Scope} {ifs : List Expr} (s : Shared) (Hh : Hp) (C : Addr) (cl : List (Str × Addr)) (fp : List Addr) : PTs (X.blk s Hh scope (compEnvC scope cl C X.env) fp) ifs (ttLc X scope ifs) := ⟨fun pins s' σ H Q I q => pts_tTs.run pins s' σ H Q I (q s Hh C cl fp)⟩
theorem teLc_ok {scope : Scope} {elt : Expr} (s : Shared) (Hh : Hp) (C : Addr) (cl : List (Str × Addr)) (fp : List Addr) : PE (X.blk s Hh scope (compEnvC scope cl C X.env) fp) elt (teLc X scope elt) := ⟨fun pins s' σ H Q I q => pe_tS.run pins s' σ H Q I (q s Hh C cl fp)⟩
theorem lc_rd {elt tg iter : Expr} {ifs : List Expr} {scope : Scope} {own : List (Str × Nat)} {melt : ME} {mt : MT} {ik : IK} {mifs : List ME} (hi : SI X M tg iter ik ma mb) (hsl : ∀ i ∈ mt.slots, i ∈ own.map (·.2))
    (hg : ∀ (s : Shared) (H : Hp) (C : Addr) (cl : List (Str × Addr)) (fp : List Addr), SG (X.blk s H scope (compEnvC scope cl C X.env) fp) tg mt)
    (ht : ∀ (s : Shared) (H : Hp) (C : Addr) (cl : List (Str × Addr)) (fp : List Addr), STs (X.blk s H scope (compEnvC scope cl C X.env) fp) M ifs mifs)
    (he : ∀ (s : Shared) (H : Hp) (C : Addr) (cl : List (Str × Addr)) (fp : List Addr), SE (X.blk s H scope (compEnvC scope cl C X.env) fp) M elt melt)
    {σ : L2.St} {H : Hp} {mσ : MS'} {mh mh' : MH} {ρ : List Addr} {mv : MV} {Q : VK} (R : RepH X.K ρ mh H) (S : RepS X.K ρ H mσ σ) (e : evE M (.lc melt mt ik ma mb mifs (own.map (·.2))) mσ mh = .ok mv mh') (P : Post X.K ρ mh H mv mh' Q) :
    tLc (tIt X tg iter) (gLc X scope tg) (ttLc X scope ifs) (teLc X scope elt) (own.map (·.2)) σ H Q := by
  simp only [evE] at e
  obtain ⟨x, h1, e1, e⟩ := bind_ok e
  obtain ⟨y, h2, e2, e⟩ := bind_ok e
  split at e
  · rename_i it e3
    split at e
    · rename_i xs e4
      obtain ⟨ys, h3, e5, e⟩ := bind_ok e
      cases e
      have hlm := lineM_le
      refine hi σ H mσ mh ρ R S x h1 y h2 it e1 e2 e3 _ fun J H1 ρ1 R1 S1 ok1 D hD => ?_
      have RS1 := S.stp R S1
      generalize hst : (fun (v : MV) (h : MH) => lcStep (asgT mt v (wipeM mσ (own.map (·.2)))) (fun σ h => evTs M mifs σ h) (fun σ h => evE M melt σ h) h) = step at e5
      -- the loop's word
      refine ⟨fun i n Hc => ∃ acc' acc mc ρc, compGo it step n i acc' mc = .ok ys h3 ∧ RepH X.K ρc mc Hc ∧ Stp ρ1 h2 H1 ρc mc Hc ∧ Hc D = some (.lst acc) ∧ ¬ Mu ρc mc D ∧ Reps X.K ρc Hc acc' acc, ⟨xs.length, ?_⟩, ?_⟩
      · obtain ⟨f1, f2, _⟩ := R1.fresh (ho := .lst []) hD
        exact ⟨[], [], h2, ρ1, e5, f1, Stp.out .refl hD, upd_same, f2, .nil⟩
      · rintro i n Hc ⟨acc', acc, mc, ρc, ec, Rc, Sc, hDc, nmc, rc⟩
        cases n with
        | zero =>
          simp only [compGo] at ec
          split at ec
          · cases ec
            refine .inl ⟨(ok1 ρc _ Hc Rc Sc i).2 (by assumption), ?_⟩
            refine (P.after S1) _ _ _ (Rc.adopt hDc nmc rc) (.ref ?_) (Sc.adopt Rc.len hD)
            rw [← Rc.len]; simp
          · cases ec
        | succ n =>
          simp only [compGo] at ec
          split at ec
          · rename_i v ev
            obtain ⟨o, m4, e6, ec⟩ := bind_ok ec
            obtain ⟨go, yl⟩ := (ok1 ρc mc Hc Rc Sc i).1 _ _ ev
            refine .inr ⟨go, fun H' => ∃ acc' acc mc ρc, compGo it step n (i + 1) acc' mc = .ok ys h3 ∧ RepH X.K ρc mc H' ∧ Stp ρ1 h2 H1 ρc mc H' ∧ H' D = some (.lst acc) ∧ ¬ Mu ρc mc D ∧ Reps X.K ρc H' acc' acc, fun H' z => ⟨n, by omega, z⟩, fun xv H' hy => ?_⟩
            obtain ⟨ρy, Ry, Sy, ry⟩ := yl xv H' hy
            have keepD : ∀ {ρ2 m2 H2}, Stp ρc mc Hc ρ2 m2 H2 → H2 D = some (.lst acc) ∧ ¬ Mu ρ2 m2 D := fun {ρ2 m2 H2} S2 => ⟨S2.frm D _ nmc hDc, fun m => by
              rcases S2.new D m with z | z
              · exact nmc z
              · rw [hDc] at z; cases z⟩
            intro s Hh C cl fp
            rw [← hst] at e6
            simp only [lcStep] at e6
            split at e6
            · rename_i mσ2 e7
              refine hg s Hh C cl fp _ H' _ mσ2 mc ρy xv v Ry (wipe_rep ((RS1.stp R1 Sc).stp Rc Sy) _) ry e7 _ fun σ2 RS2 k2 => ?_
              refine ⟨wipe_eq (by rw [RS2.len]; have := (wipe_rep ((RS1.stp R1 Sc).stp Rc Sy) (own.map (·.2))).len; rw [wipe_length] at this; rw [this]; exact asgT_len e7) hsl k2, ?_⟩
              obtain ⟨b, m5, e8, e6⟩ := bind_ok e6
              intro s Hh C cl fp
              refine sts_run (ht s Hh C cl fp) Ry RS2 e8 fun H5 ρ5 R5 S5 => ?_
              have S5' := Sy.trans S5
              cases b with
              | true =>
                rw [if_pos rfl]
                obtain ⟨w, m6, e9, e6⟩ := bind_ok e6
                cases e6
                intro s Hh C cl fp
                refine he s Hh C cl fp σ2 H5 mσ2 m5 ρ5 R5 (RS2.stp Ry S5) w _ e9 _ fun vw H6 ρ6 R6 r6 S6 => ?_
                have S6' := S5'.trans S6
                obtain ⟨k1, k2⟩ := keepD S6'
                dsimp only at ec
                split at ec
                · rename_i hlt
                  refine ⟨acc, k1, by rw [← rc.length]; omega, acc' ++ [w], acc ++ [vw], m4, ρ6, ec, R6.out k1 trivial k2, (Sc.trans S6').out hD, upd_same, k2, ?_⟩
                  exact Reps.mono' (List.prefix_refl _) (fun q vs h => SqT.out k1 trivial h) _ _ ((rc.stp Rc S6').append (.one r6))
                · cases ec
              | false =>
                rw [if_neg Bool.false_ne_true]
                cases e6
                obtain ⟨k1, k2⟩ := keepD S5'
                exact ⟨acc', acc, m4, ρ5, ec, R5, Sc.trans S5', k1, k2, rc.stp Rc S5'⟩
            · cases e6
          · cases ec
    · cases e
  · cases e
theorem se_lc {elt tg iter : Expr} {ifs : List Expr} {scope : Scope} {own : List (Str × Nat)} {pos : Pos} {melt : ME} {mt : MT} {ik : IK} {mifs : List ME} (hc : X.calm = true) (hN : X.N.Nodup) (ok : BlkOk X.N X.env.scope scope own)
    (hi : SI X M tg iter ik ma mb) (hsl : ∀ i ∈ mt.slots, i ∈ own.map (·.2))
    (hg : ∀ (s : Shared) (H : Hp) (C : Addr) (cl : List (Str × Addr)) (fp : List Addr), SG (X.blk s H scope (compEnvC scope cl C X.env) fp) tg mt)
    (ht : ∀ (s : Shared) (H : Hp) (C : Addr) (cl : List (Str × Addr)) (fp : List Addr), STs (X.blk s H scope (compEnvC scope cl C X.env) fp) M ifs mifs)
    (he : ∀ (s : Shared) (H : Hp) (C : Addr) (cl : List (Str × Addr)) (fp : List Addr), SE (X.blk s H scope (compEnvC scope cl C X.env) fp) M elt melt)
    (hs : ∀ x, foldedSetIterable iter X.env x = pure x) : SE X M (.ListComp elt [⟨tg, iter, ifs, 0⟩] scope pos) (.lc melt mt ik ma mb mifs (own.map (·.2))) := by
  intro σ H mσ mh ρ R S mv mh' e Q P
  exact ⟨_, pe_lc hc hN pi_tIt ok (fun s H C cl fp => gLc_ok s H C cl fp) (fun s H C cl fp => ttLc_ok s H C cl fp) (fun s H C cl fp => teLc_ok s H C cl fp) hs, lc_rd hi hsl hg ht he R S e P⟩
/-! ### displays of dicts, ranges as lists and tuples -/
theorem KReps.put {ρ : List Addr} {H : Hp} {xs : List (Key × MV)} {vs : List (Key × V)} (h : KReps K ρ H xs vs) {ps : List (Key × MV)} {qs : List (Key × V)} (g : KReps K ρ H ps qs) :
    KReps K ρ H (ps.foldl (fun acc kv => Mn.putK kv.1 kv.2 acc) xs) (mergeK vs qs) := by
  induction g generalizing xs vs with
  | nil => exact h
  | cons a _ ih => exact ih (putK_rep a h)
def weave : List Expr → List Expr → List Expr
  | k :: ks, v :: vs => k :: v :: weave ks vs
  | _, _ => []
inductive SP2 (X : Cx) (M : Cm) : List Expr → List Expr → List ME → Prop
  | nil : SP2 X M [] [] []
  | cons {k v : Expr} {ks vs : List Expr} {mk mv : ME} {ms : List ME} : SE X M k mk → SE X M v mv → SP2 X M ks vs ms → SP2 X M (k :: ks) (v :: vs) (mk :: mv :: ms)
theorem sp2_run {ks vs : List Expr} {ms : List ME} (h : SP2 X M ks vs ms) : ∃ trs, PPs X pos (ks.map some) vs trs ∧
    ∀ σ H mσ mh ρ, RepH X.K ρ mh H → RepS X.K ρ H mσ σ → ∀ xs mh', evEs M ms mσ mh = .ok xs mh' → ∀ ps, pairUp xs = some ps → ∀ Q : List (V × V) → Hp → Prop,
      (∀ (qs : List (Key × V)) H' ρ', RepH X.K ρ' mh' H' → KReps X.K ρ' H' ps qs → Stp ρ mh H ρ' mh' H' → Q (qs.map fun kv => (kV kv.1, kv.2)) H') → tPairs trs σ H Q := by
  induction h with
  | nil =>
    refine ⟨[], pps_nil, fun σ H mσ mh ρ R S xs mh' e ps e2 Q P => ?_⟩
    simp only [evEs] at e
    cases e
    simp only [pairUp] at e2
    cases e2
    exact P [] H ρ R .nil .refl
  | cons h1 h2 _ ih =>
    obtain ⟨trs, g1, g2⟩ := ih
    refine ⟨_, pps_cons pe_tS pe_tS g1, fun σ H mσ mh ρ R S xs mh' e ps e4 Q P => ?_⟩
    simp only [evEs] at e
    obtain ⟨x, m1, e1, e⟩ := bind_ok e
    obtain ⟨xs2, m3, e3, e⟩ := bind_ok e
    cases e
    obtain ⟨y, m2, e2, e3⟩ := bind_ok e3
    obtain ⟨zs, m4, e5, e3⟩ := bind_ok e3
    cases e3
    simp only [pairUp] at e4
    split at e4
    · rename_i k ps2 hk hp
      cases e4
      refine h1 σ H mσ mh ρ R S x m1 e1 _ fun v H1 ρ1 R1 r1 S1 => ?_
      refine h2 σ H1 mσ m1 ρ1 R1 (S.stp R S1) y m2 e2 _ fun w H2 ρ2 R2 r2 S2 => ?_
      refine g2 σ H2 mσ m2 ρ2 R2 ((S.stp R S1).stp R1 S2) zs _ e5 ps2 hp _ fun qs H3 ρ3 R3 r3 S3 => ?_
      have := keyOf_rep r1 hk
      subst this
      exact P ((k, w) :: qs) H3 ρ3 R3 (.cons (r2.stp R2 S3) r3) ((S1.trans S2).trans S3)
    · cases e4
theorem pairUp_len : ∀ {xs : List MV} {ps : List (Key × MV)}, pairUp xs = some ps → xs.length = 2 * ps.length
  | [], _, h => by simp only [pairUp] at h; cases h; rfl
  | [x], _, h => by simp [pairUp] at h
  | x :: y :: r, _, h => by
    simp only [pairUp] at h
    split at h
    · cases h
      have := pairUp_len (xs := r) (by assumption)
      simp; omega
    · cases h
theorem se_dsp {ks vs : List Expr} {ms : List ME} (h : SP2 X M ks vs ms) (h15 : ks.length ≤ 15) : SE X M (.Dict (ks.map some) vs pos) (.dsp ms) := by
  intro σ H mσ mh ρ R S mv mh' e Q P
  simp only [evE] at e
  obtain ⟨xs, m1, e1, e⟩ := bind_ok e
  split at e
  · rename_i ps hps
    cases e
    cases h with
    | nil =>
      simp only [evEs] at e1
      cases e1
      simp only [pairUp] at hps
      cases hps
      refine ⟨_, pe_dnewK, fun p hn => ?_⟩
      obtain ⟨a, b⟩ := R.push (o := .dct []) (ho := .dK []) hn rfl fun H' h1 h2 => ⟨[], h2, .nil⟩
      exact P _ _ _ a (.ref (by rw [← R.len]; simp)) b
    | @cons k v ks vs mk mv ms a b c =>
      have hh : SP2 X M (k :: ks) (v :: vs) (mk :: mv :: ms) := .cons a b c
      obtain ⟨trs, g1, g2⟩ := sp2_run (pos := pos) hh
      have l1 : ∀ {ks vs : List Expr} {ms : List ME}, SP2 X M ks vs ms → ks.length = vs.length ∧ ms.length = 2 * ks.length := fun h => by
        induction h with
        | nil => exact ⟨rfl, rfl⟩
        | cons _ _ _ ih => simp; omega
      have hl : ((k :: ks).map some).length = (v :: vs).length := by simp [(l1 c).1]
      refine ⟨_, pe_disp g1 (by simp) hl (by simp) (by simpa using h15), fun p hn => ?_⟩
      obtain ⟨f1, f2, f3⟩ := R.fresh (ho := .dK []) hn
      have S' : RepS X.K ρ (upd H p (.dK [])) mσ σ := ⟨S.len, fun i m e => by
        obtain ⟨v, h1, h2⟩ := S.get i m e
        have := f3 (.one h2)
        obtain ⟨_, h3, h4⟩ := this.one'
        cases h3
        exact ⟨v, h1, h4⟩⟩
      refine g2 σ _ mσ mh ρ f1 S' xs _ e1 ps hps _ fun qs H2 ρ2 R2 r2 S2 => ?_
      have kD : H2 p = some (.dK []) := S2.frm p _ f2 upd_same
      have nm : ¬ Mu ρ2 m1 p := fun m => by
        rcases S2.new p m with z | z
        · exact f2 z
        · rw [upd_same] at z; cases z
      have hlen : qs.length ≤ 15 := by
        have h1 := evEs_len e1
        have h2 := pairUp_len hps
        have h3 := (l1 hh).2
        have h4 := r2.length
        omega
      refine ⟨kD, qs, rfl, hlen, ?_⟩
      have Ro := R2.out (ho := .dK (mergeK [] qs)) kD trivial nm
      have hz : ∀ q vs, SqT X.K H2 q vs → SqT X.K (upd H2 p (.dK (mergeK [] qs))) q vs := fun q vs h => SqT.out kD trivial h
      have Rq : KReps X.K (ρ2 ++ [p]) (upd H2 p (.dK (mergeK [] qs))) (ps.foldl (fun acc kv => Mn.putK kv.1 kv.2 acc) []) (mergeK [] qs) := KReps.mono' (List.prefix_append _ _) hz (KReps.put .nil r2)
      have St : Stp ρ mh H ρ2 m1 (upd H2 p (.dK (mergeK [] qs))) := ⟨S2.pre, fun q m => by
        rcases S2.new q m with z | z
        · exact .inl z
        · by_cases hq : q = p
          · subst hq; exact .inr hn
          · rw [upd_ne hq] at z; exact .inr z, fun q o n h => by
        have hq : q ≠ p := ne_of_none h hn
        rw [upd_ne hq]
        exact S2.frm q o n (by rw [upd_ne hq]; exact h)⟩
      exact P _ _ _ (Ro.adoptO nm ⟨_, upd_same, Rq⟩) (.ref (by rw [← R2.len]; simp)) (St.adopt R2.len hn)
  · cases e
theorem rngM_ok {x y : MV} {xs : List MV} (e : rngM x y = some xs) : ∃ i j, x = .int i ∧ y = .int j ∧ RgOk i j ∧ xs = rngI i (j - i).toNat := by
  unfold rngM at e
  split at e
  · split at e
    · cases e
      rename_i h
      exact ⟨_, _, rfl, rfl, ⟨h.1, h.2.1, h.2.2.1, h.2.2.2.1, Nat.le_trans h.2.2.2.2 (by decide)⟩, rfl⟩
    · cases e
  · cases e
theorem rng_reps {ρ : List Addr} {H : Hp} {i j : Int} : Reps K ρ H (rngI i (j - i).toNat) (rgV i j) := by
  unfold rngI rgV
  generalize List.range (j - i).toNat = l
  induction l with
  | nil => exact .nil
  | cons a l ih => exact .cons (.int _) ih
/-- list(range(..)), tuple(range(..)): r tells how the range is written -/
theorem se_rngL {p : Pos} {e : Expr} {te : L2.St → Hp → (Int → Int → Hp → Prop) → Prop} (hc : X.calm = true) (hg : Gl X "list") (hm : X.mg "list" = none) (he : PRg X e te) (na : starEach [e] X.env = (false, eval e X.env) :: starEach [] X.env)
    (h : ∀ σ H mσ mh ρ, RepH X.K ρ mh H → RepS X.K ρ H mσ σ → ∀ x h1 y h2, evE M ma mσ mh = .ok x h1 → evE M mb mσ h1 = .ok y h2 → ∀ i j, x = .int i → y = .int j → ∀ Q : Int → Int → Hp → Prop, (∀ H' ρ', RepH X.K ρ' h2 H' → Stp ρ mh H ρ' h2 H' → Q i j H') → te σ H Q) :
    SE X M (.Call (.Name "list" p) [e] [] pos) (.rngL ma mb) := by
  intro σ H mσ mh ρ R S mv mh' e Q P
  simp only [evE] at e
  obtain ⟨x, h1, e1, e⟩ := bind_ok e
  obtain ⟨y, h2, e2, e⟩ := bind_ok e
  split at e
  · rename_i xs hx
    obtain ⟨i, j, rfl, rfl, ok, rfl⟩ := rngM_ok hx
    cases e
    refine ⟨_, pe_listRg hc hg hm he na, h σ H mσ mh ρ R S _ h1 _ h2 e1 e2 i j rfl rfl _ fun H' ρ' R' S' => ⟨ok, fun q hn => (P.after S').newL R' rng_reps hn⟩⟩
  · cases e
theorem se_rngT {p : Pos} {e : Expr} {te : L2.St → Hp → (Int → Int → Hp → Prop) → Prop} (hc : X.calm = true) (hg : Gl X "tuple") (hm : X.mg "tuple" = none) (he : PRg X e te) (na : starEach [e] X.env = (false, eval e X.env) :: starEach [] X.env)
    (h : ∀ σ H mσ mh ρ, RepH X.K ρ mh H → RepS X.K ρ H mσ σ → ∀ x h1 y h2, evE M ma mσ mh = .ok x h1 → evE M mb mσ h1 = .ok y h2 → ∀ i j, x = .int i → y = .int j → ∀ Q : Int → Int → Hp → Prop, (∀ H' ρ', RepH X.K ρ' h2 H' → Stp ρ mh H ρ' h2 H' → Q i j H') → te σ H Q) :
    SE X M (.Call (.Name "tuple" p) [e] [] pos) (.rngT ma mb) := by
  intro σ H mσ mh ρ R S mv mh' e Q P
  simp only [evE] at e
  obtain ⟨x, h1, e1, e⟩ := bind_ok e
  obtain ⟨y, h2, e2, e⟩ := bind_ok e
  split at e
  · rename_i xs hx
    obtain ⟨i, j, rfl, rfl, ok, rfl⟩ := rngM_ok hx
    cases e
    refine ⟨_, pe_tupRg hc hg hm he na, h σ H mσ mh ρ R S _ h1 _ _ e1 e2 i j rfl rfl _ fun H' ρ' R' S' => ⟨ok, fun q hn => (P.after S').newT R' rng_reps hn⟩⟩
  · cases e
theorem rg1_ok {p2 p : Pos} (ha : SE X M a ma) (hg : Gl X "range") (hm : X.mg "range" = none) (hs : starEach [a] X.env = (false, eval a X.env) :: starEach [] X.env) : ∃ te, PRg X (.Call (.Name "range" p) [a] [] p2) te ∧
    ∀ σ H mσ mh ρ, RepH X.K ρ mh H → RepS X.K ρ H mσ σ → ∀ x h1 y h2, evE M (.c (.int 0)) mσ mh = .ok x h1 → evE M ma mσ h1 = .ok y h2 → ∀ i j, x = .int i → y = .int j → ∀ Q : Int → Int → Hp → Prop, (∀ H' ρ', RepH X.K ρ' h2 H' → Stp ρ mh H ρ' h2 H' → Q i j H') → te σ H Q := by
  refine ⟨_, prg_1 hg hm pe_tS hs, fun σ H mσ mh ρ R S x h1 y h2 e1 e2 i j hi hj Q P => ?_⟩
  subst hi hj
  simp only [evE] at e1
  cases e1
  refine ha σ H mσ mh ρ R S _ _ e2 _ fun v H1 ρ1 R1 r1 S1 => ?_
  cases r1
  exact ⟨j, rfl, P H1 ρ1 R1 S1⟩
theorem rg2_ok {p2 p : Pos} (ha : SE X M a ma) (hb : SE X M b mb) (hg : Gl X "range") (hm : X.mg "range" = none) (hs : starEach [a, b] X.env = (false, eval a X.env) :: starEach [b] X.env) (hs2 : starEach [b] X.env = (false, eval b X.env) :: starEach [] X.env) :
    ∃ te, PRg X (.Call (.Name "range" p) [a, b] [] p2) te ∧
    ∀ σ H mσ mh ρ, RepH X.K ρ mh H → RepS X.K ρ H mσ σ → ∀ x h1 y h2, evE M ma mσ mh = .ok x h1 → evE M mb mσ h1 = .ok y h2 → ∀ i j, x = .int i → y = .int j → ∀ Q : Int → Int → Hp → Prop, (∀ H' ρ', RepH X.K ρ' h2 H' → Stp ρ mh H ρ' h2 H' → Q i j H') → te σ H Q := by
  refine ⟨_, prg_2 hg hm pe_tS pe_tS hs hs2 (by rw [hs2]; rfl), fun σ H mσ mh ρ R S x h1 y h2 e1 e2 i j hi hj Q P => ?_⟩
  subst hi hj
  refine ha σ H mσ mh ρ R S _ _ e1 _ fun v H1 ρ1 R1 r1 S1 => ?_
  refine hb σ H1 mσ h1 ρ1 R1 (S.stp R S1) _ _ e2 _ fun w H2 ρ2 R2 r2 S2 => ?_
  cases r1; cases r2
  exact ⟨i, j, rfl, rfl, P H2 ρ2 R2 (S1.trans S2)⟩
end
end Mn

set_option maxHeartbeats 4000000
/-! Snd3: calls, methods, statements, functions. -/
namespace Mn
open PySem PySem.Spec PyProof.Rows L2

/-- nothing is raised -/
def NoX : CXT := fun _ _ _ _ _ _ => False
/-- a def keeps its promise where no guarded code runs -/
structure FnG (P : Program) (w : World) (K : PySem.W.Frag) (mg : Str → Option Value) (base : Heap) (k : Nat) (f : Addr) (fd : FuncData) (ps : List Str) (sp : Sp) : Prop where
  len : ∀ vs H Q E, sp vs H Q E → vs.length = ps.length
  run : ∀ (A : Around) (outer : List Env) (s : Shared) (H : Hp) (args : Args) (us : List Value) (vs : List V) (Q : VK) (E : XK), A.guards = some [] → Room k A → Env0 P w K mg base A outer s H →
    BindsTo s fd args (ps.zip us) → Vals vs us → sp vs H Q E → codeAny (model P w) A (.call (.ref f) args) (CR NoX outer P w H s Q E) s
theorem FnG.mono {P : Program} {w : World} {K : PySem.W.Frag} {mg : Str → Option Value} {base : Heap} {j k : Nat} {f : Addr} {fd : FuncData} {ps : List Str} {sp : Sp} (F : FnG P w K mg base j f fd ps sp) (h : j ≤ k) : FnG P w K mg base k f fd ps sp :=
  ⟨F.len, fun A outer s H args us vs Q E hg hr => F.run A outer s H args us vs Q E hg (hr.mono h)⟩
/-- the small run of f as a promise -/
def spM (K : PySem.W.Frag) (call : Str → List MV → MH → R MV) (f : Str) (n : Nat) : Sp := fun ws H Q _ =>
  ∃ ρ mh vs mv mh', RepH K ρ mh H ∧ Reps K ρ H vs ws ∧ vs.length = n ∧ call f vs mh = .ok mv mh' ∧ Post K ρ mh H mv mh' Q
/-- what a body may lean on -/
structure EC (X : Cx) (M : Cm) (F B : List Str) (k : Nat) : Prop where
  calm : X.calm = true
  nd : X.N.Nodup
  gd : X.A.guards = some []
  room : Room k X.A
  call : ∀ f ∈ F, ∃ (fa : Addr) (fd : FuncData) (ps : List Str), X.mg f = some (.ref fa) ∧ PySem.W.keepIn X.K (.ref fa) = true ∧ Binds X.K fd ps [] ∧ FnG X.prog X.w X.K X.mg X.base k fa fd ps (spM X.K M.call f ps.length) ∧
    ∀ vs mh mv mh', M.call f vs mh = .ok mv mh' → vs.length = ps.length
  blt : ∀ x ∈ B, X.mg x = none
  gl : ∀ x v, M.gl x = some v → ∃ u w, X.mg x = some u ∧ RelV w u ∧ ∀ ρ H, Rep X.K ρ H v w
theorem EC.blk {X : Cx} {M : Cm} {F B : List Str} {k : Nat} (c : EC X M F B k) (s : Shared) (H : Hp) (scope : Scope) (cenv : Env) (fp : List Addr) : EC (X.blk s H scope cenv fp) M F B k := ⟨c.calm, c.nd, c.gd, c.room, c.call, c.blt, c.gl⟩
theorem EC.un {X : Cx} {M : Cm} {F B : List Str} {k : Nat} (c : EC X M F B k) : X.A.units + 100 < cLine := by have := c.room.un; omega
section
variable {X : Cx} {M : Cm} {F B : List Str} {k : Nat} {a : Expr} {es : List Expr} {ma : ME} {mes : List ME} {pos p : Pos}
/-- a call of one of the program's defs -/
theorem se_call (c : EC X M F B k) {f : Str} (hf : f ∈ F) (hg : Gl X f) (hdb : (f == ("__debug__" : Str)) = false) (he : starEach (a :: es) X.env = (false, eval a X.env) :: starEach es X.env)
    (hpl : (backTo pos (starEach es X.env)).any (·.1) = false) (h : SA X M (a :: es) mes) : SE X M (.Call (.Name f p) (a :: es) [] pos) (.call f mes) := by
  intro σ H mσ mh ρ R S mv mh' e Q P
  simp only [evE] at e
  obtain ⟨xs, h1, e1, e⟩ := bind_ok e
  obtain ⟨fa, fd, ps, hm, hk, hb, FF, hlen⟩ := c.call f hf
  refine ⟨fun σ H Q => tA X (a :: es) σ H fun ws H1 => spM X.K M.call f ps.length ws H1 Q fun _ _ _ => False, ⟨fun pins s σ H Q I hq => ?_⟩, ?_⟩
  · refine wpAny_Call_Name_kw (ld_glob I hg hm ?_ hdb)
    refine PySem.W.callWith_K (h₀ := X.base) I.ok.mod.kin hk (thn (pa_tA.run pos pins s σ H _ I hq) fun us s1 ⟨vs, H1, I1, r, q⟩ => ⟨I1.kIn, ?_⟩) he hpl
    have hl : vs.length = ps.length := FF.len vs H1 Q _ q
    have hl2 : (us ++ []).length = ps.length := by rw [List.append_nil, ← r.length]; exact hl
    have hb' := hb s1 us I1.kIn hl2
    rw [List.append_nil] at hb'
    refine wpAny_call (codeAny_mono (FF.run X.A X.stack s1 H1 ⟨us, []⟩ us vs Q _ c.gd c.room I1.env0 hb' r q) fun r s' hq => ?_)
    cases r with
    | error e => exact (show False from hq).elim
    | ok fl =>
      cases fl with
      | ret u => exact I1.after hq
      | _ => exact False.elim hq
  · refine h σ H mσ mh ρ R S xs h1 e1 _ fun ws H1 ρ1 R1 r1 S1 => ?_
    exact ⟨ρ1, h1, xs, mv, mh', R1, r1, hlen _ _ _ _ e, e, P.after S1⟩
theorem se_call0 (c : EC X M F B k) {f : Str} (hf : f ∈ F) (hg : Gl X f) (hdb : (f == ("__debug__" : Str)) = false) : SE X M (.Call (.Name f p) [] [] pos) (.call f []) := by
  intro σ H mσ mh ρ R S mv mh' e Q P
  simp only [evE, evEs, Mn.R.bind] at e
  obtain ⟨fa, fd, ps, hm, hk, hb, FF, hlen⟩ := c.call f hf
  refine ⟨fun σ H Q => spM X.K M.call f ps.length [] H Q fun _ _ _ => False, ⟨fun pins s σ H Q I q => ?_⟩, ⟨ρ, mh, [], mv, mh', R, .nil, hlen _ _ _ _ e, e, P⟩⟩
  refine wpAny_Call_Name_kw (ld_glob I hg hm ?_ hdb)
  have hl : ([] : List V).length = ps.length := FF.len [] H Q _ q
  have hb' := hb s [] I.kIn hl
  refine PySem.W.callWith_K0 I.kIn hk (wpAny_call (codeAny_mono (FF.run X.A X.stack s H ⟨[], []⟩ [] [] Q _ c.gd c.room I.env0 hb' .nil q) fun r s' hq => ?_))
  cases r with
  | error e => exact (show False from hq).elim
  | ok fl =>
    cases fl with
    | ret u => exact I.after hq
    | _ => exact False.elim hq
/-! ### methods -/
theorem kd_list {mh : MH} {x : MV} (e : kdM mh x = some .list) : ∃ l, x = .ref l ∧ ∃ xs, lsts mh l = some xs := by
  cases x <;> simp only [kdM] at e <;> try cases e
  rename_i l
  refine ⟨l, rfl, ?_⟩
  split at e <;> first | (cases e; done) | (rename_i h; exact ⟨_, by unfold lsts; rw [h]⟩)
theorem kd_dict {mh : MH} {x : MV} (e : kdM mh x = some .dict) : ∃ l, x = .ref l ∧ ∃ xs, mh[l]? = some (.dct xs) := by
  cases x <;> simp only [kdM] at e <;> try cases e
  rename_i l
  refine ⟨l, rfl, ?_⟩
  split at e <;> first | (cases e; done) | (rename_i h; exact ⟨_, h⟩)
structure MethSide (X : Cx) (o : Expr) (m : Str) (apos : Pos) (es : List Expr) (cpos : Pos) : Prop where
  base : attributeBase o m X.env (eval o X.env) = eval o X.env
  few : ((backTo cpos (starEach es X.env)).all (fun x => !x.1) && (backToKw cpos (keywordEach [] X.env)).all (fun x => x.1.isSome)
    && decide (es.length + ([] : List Keyword).length + (if ([] : List Keyword).isEmpty then 0 else 1) < 30)) = true
  line : (apos.endLine == cpos.line) = true
/-- o.m(e, ..), o a list, or d.get(k), d.get(k, x) -/
theorem se_meth (c : EC X M F B k) {m : Me} {o : Expr} {mo : ME} {apos : Pos} (hm : MethSide X o m.nm apos (a :: es) pos) (ho : SE X M o mo) (he : starEach (a :: es) X.env = (false, eval a X.env) :: starEach es X.env) (hpl : (backTo pos (starEach es X.env)).any (·.1) = false)
    (h : SA X M (a :: es) mes) (hget : m = .get → (∃ ma, mes = [ma] ∧ es = [] ∧ SE X M a ma ∧ backTo pos (starEach [a] X.env) = [(false, eval a X.env)]) ∨ ∃ b ma mb, mes = [ma, mb] ∧ es = [b] ∧ SE X M a ma ∧ SE X M b mb ∧ backTo pos (starEach [a, b] X.env) = [(false, eval a X.env), (false, eval b X.env)]) :
    SE X M (.Call (.Attribute o m.nm apos) (a :: es) [] pos) (.meth m mo mes) := by
  intro σ H mσ mh ρ R S mv mh' e Q P
  simp only [evE] at e
  obtain ⟨x, h1, e1, e⟩ := bind_ok e
  have hu1 : X.A.units + 1 < cLine := by have := c.un; omega
  cases hk : kdM h1 x with
  | none => rw [hk] at e; cases e
  | some kd =>
    rw [hk] at e
    obtain ⟨vs, h2, e2, e⟩ := bind_ok e
    cases kd with
    | list =>
      obtain ⟨l, rfl, ys, hl⟩ := kd_list hk
      obtain ⟨id, r, sl, ty, hr, hq⟩ := lmS (X := X) c.calm e
      refine ⟨_, pe_bm PySem.F.plainAttrs_list sl ty hr pe_tS pa_tA hm.base hm.few hm.line he hpl, ?_⟩
      refine ho σ H mσ mh ρ R S _ h1 e1 _ fun v H1 ρ1 R1 r1 S1 => ?_
      cases r1 with
      | @ref _ p hp =>
        obtain ⟨us, s, _⟩ := R1.lsts hp hl
        refine ⟨.inl ⟨rfl, us, s⟩, ?_⟩
        refine h σ H1 mσ h1 ρ1 R1 (S.stp R S1) vs h2 e2 _ fun ws H2 ρ2 R2 r2 S2 => ?_
        exact hq ρ2 H2 p ws R2 (prefix_get S2.pre hp) r2 Q (P.after (S1.trans S2))
    | dict =>
      obtain ⟨l, rfl, kvs, hd⟩ := kd_dict hk
      have nd : ∀ {n}, m ≠ .get → methM m .dict (.ref l) vs h2 ≠ .ok mv n := fun {n} hn z => by
        simp only [methM] at z
        split at z
        · rename_i q; cases q
        · cases m <;> simp_all
        · cases z
      by_cases hg : m = .get
      · subst hg
        rcases hget rfl with ⟨ma, rfl, rfl, ha, htr⟩ | ⟨b, ma, mb, rfl, rfl, ha, hb, htr⟩
        · refine ⟨_, pe_dget1 hu1 pe_tS pe_tS ⟨hm.base, hm.few, hm.line, htr⟩, ?_⟩
          refine ho σ H mσ mh ρ R S _ h1 e1 _ fun v H1 ρ1 R1 r1 S1 => ?_
          simp only [evEs] at e2
          obtain ⟨y, h3, e3, e2⟩ := bind_ok e2
          simp only [Mn.R.bind] at e2
          cases e2
          cases r1 with
          | @ref _ p hp =>
            obtain ⟨us, s, _⟩ := R1.dct hp hd
            refine ⟨p, rfl, .inl ⟨us, .of s⟩, ?_⟩
            refine ha σ H1 mσ h1 ρ1 R1 (S.stp R S1) y _ e3 _ fun w H2 ρ2 R2 r2 S2 => ?_
            simp only [methM] at e
            split at e
            · rename_i q; cases q
            · rename_i kvs2 hd2 _
              split at e
              · rename_i kk hkk
                cases e
                obtain ⟨us2, s2, rk⟩ := R2.dct (prefix_get S2.pre hp) hd2
                have := keyOf_rep r2 hkk
                subst this
                obtain ⟨g1, g2⟩ := getK_rep (k := kk) rk
                refine ⟨valV us2 kk, .k s2, ?_⟩
                cases z : getK kk kvs2 with
                | none => rw [g2 z]; rw [z] at P; exact P _ _ _ R2 .non (S1.trans S2)
                | some m => obtain ⟨v, g, rv⟩ := g1 m z; rw [g]; rw [z] at P; exact P _ _ _ R2 rv (S1.trans S2)
              · cases e
            · cases e
        · refine ⟨_, pe_dget2 hu1 pe_tS pe_tS pe_tS ⟨hm.base, hm.few, hm.line, htr⟩, ?_⟩
          refine ho σ H mσ mh ρ R S _ h1 e1 _ fun v H1 ρ1 R1 r1 S1 => ?_
          simp only [evEs] at e2
          obtain ⟨y, h3, e3, e2⟩ := bind_ok e2
          obtain ⟨zs, h4, e4, e2⟩ := bind_ok e2
          cases e2
          obtain ⟨z, h5, e5, e4⟩ := bind_ok e4
          simp only [Mn.R.bind] at e4
          cases e4
          cases r1 with
          | @ref _ p hp =>
            obtain ⟨us, s, _⟩ := R1.dct hp hd
            refine ⟨p, rfl, .inl ⟨us, .of s⟩, ?_⟩
            refine ha σ H1 mσ h1 ρ1 R1 (S.stp R S1) y _ e3 _ fun w H2 ρ2 R2 r2 S2 => ?_
            refine hb σ H2 mσ h3 ρ2 R2 ((S.stp R S1).stp R1 S2) z _ e5 _ fun w3 H3 ρ3 R3 r3 S3 => ?_
            simp only [methM] at e
            split at e
            · rename_i q; cases q
            · rename_i kvs2 hd2 _
              split at e
              · rename_i kk hkk
                cases e
                obtain ⟨us2, s2, rk⟩ := R3.dct (prefix_get S3.pre (prefix_get S2.pre hp)) hd2
                have := keyOf_rep (r2.stp R2 S3) hkk
                subst this
                obtain ⟨g1, g2⟩ := getK_rep (k := kk) rk
                refine ⟨valV us2 kk, .k s2, ?_⟩
                cases z : getK kk kvs2 with
                | none => rw [g2 z]; rw [z] at P; exact P _ _ _ R3 r3 ((S1.trans S2).trans S3)
                | some m => obtain ⟨v, g, rv⟩ := g1 m z; rw [g]; rw [z] at P; exact P _ _ _ R3 rv ((S1.trans S2).trans S3)
              · cases e
            · cases e
      · exact absurd e (nd hg)
    | str =>
      exfalso
      cases x <;> simp only [kdM] at hk <;> try cases hk
      · simp [methM] at e
      · split at hk <;> cases hk
    | tuple =>
      exfalso
      cases x <;> simp only [kdM] at hk <;> try cases hk
      · simp [methM] at e
      · split at hk <;> cases hk
/-- o.m(), o a list -/
theorem se_meth0 (c : EC X M F B k) {m : Me} {o : Expr} {mo : ME} {apos : Pos} (hbase : attributeBase o m.nm X.env (eval o X.env) = eval o X.env) (hline : (apos.endLine == pos.line) = true) (ho : SE X M o mo) :
    SE X M (.Call (.Attribute o m.nm apos) [] [] pos) (.meth m mo []) := by
  intro σ H mσ mh ρ R S mv mh' e Q P
  simp only [evE] at e
  obtain ⟨x, h1, e1, e⟩ := bind_ok e
  cases hk : kdM h1 x with
  | none => rw [hk] at e; cases e
  | some kd =>
    rw [hk] at e
    simp only [evEs, Mn.R.bind] at e
    cases kd with
    | list =>
      obtain ⟨l, rfl, ys, hl⟩ := kd_list hk
      obtain ⟨id, r, sl, ty, hr, hq⟩ := lmS (X := X) c.calm e
      refine ⟨_, pe_bm0 PySem.F.plainAttrs_list sl ty hr pe_tS hbase hline, ?_⟩
      refine ho σ H mσ mh ρ R S _ h1 e1 _ fun v H1 ρ1 R1 r1 S1 => ?_
      cases r1 with
      | @ref _ p hp =>
        obtain ⟨us, s, _⟩ := R1.lsts hp hl
        exact ⟨.inl ⟨rfl, us, s⟩, hq ρ1 H1 p [] R1 hp .nil Q (P.after S1)⟩
    | dict =>
      obtain ⟨l, rfl, kvs, hd⟩ := kd_dict hk
      simp only [methM] at e
      split at e
      · rename_i q; cases q
      · cases m <;> simp_all
      · cases e
    | str =>
      exfalso
      cases x <;> simp only [kdM] at hk <;> try cases hk
      · simp [methM] at e
      · split at hk <;> cases hk
    | tuple =>
      exfalso
      cases x <;> simp only [kdM] at hk <;> try cases hk
      · simp [methM] at e
      · split at hk <;> cases hk
end
/-! ### statements -/
def EndsOk (K : PySem.W.Frag) (ρ : List Addr) (mh : MH) (H : Hp) (fl : Fl) (mh' : MH) (D : Ends) : Prop :=
  match fl with
  | .nx mσ => ∀ σ' H' ρ', RepH K ρ' mh' H' → RepS K ρ' H' mσ σ' → Stp ρ mh H ρ' mh' H' → D.nx σ' H'
  | .brk mσ => ∀ σ' H' ρ', RepH K ρ' mh' H' → RepS K ρ' H' mσ σ' → Stp ρ mh H ρ' mh' H' → D.bk σ' H'
  | .cont mσ => ∀ σ' H' ρ', RepH K ρ' mh' H' → RepS K ρ' H' mσ σ' → Stp ρ mh H ρ' mh' H' → D.ct σ' H'
  | .ret mv => Post K ρ mh H mv mh' D.rt
theorem EndsOk.after {K : PySem.W.Frag} {ρ ρ1 : List Addr} {mh m1 mh' : MH} {H H1 : Hp} {fl : Fl} {D : Ends} (P : EndsOk K ρ mh H fl mh' D) (S : Stp ρ mh H ρ1 m1 H1) : EndsOk K ρ1 m1 H1 fl mh' D := by
  cases fl with
  | ret mv => exact Post.after P S
  | _ => exact fun σ' H' ρ' a b c => P σ' H' ρ' a b (S.trans c)
def SS (X : Cx) (M : Cm) (s : Stmt) (ms : MS) : Prop :=
  ∀ σ H mσ mh ρ, RepH X.K ρ mh H → RepS X.K ρ H mσ σ → ∀ fl mh', evS M ms mσ mh = .ok fl mh' → ∀ D, EndsOk X.K ρ mh H fl mh' D → tS1 X s D σ H
def SSs (X : Cx) (M : Cm) (ss : List Stmt) (mss : List MS) : Prop :=
  ∀ σ H mσ mh ρ, RepH X.K ρ mh H → RepS X.K ρ H mσ σ → ∀ fl mh', evSs M mss mσ mh = .ok fl mh' → ∀ D, EndsOk X.K ρ mh H fl mh' D → tSS X ss D σ H
section
variable {X : Cx} {M : Cm} {F B : List Str} {k : Nat} {a b o i : Expr} {ma mb mo mi : ME} {pos : Pos} {st : Stmt} {ss ts : List Stmt} {ms : MS} {mss mts : List MS}
theorem sss_nil : SSs X M [] [] := by
  intro σ H mσ mh ρ R S fl mh' e D P
  simp only [evSs] at e
  cases e
  exact ⟨_, pss_nil, P σ H ρ R S .refl⟩
theorem sss_cons (h1 : SS X M st ms) (h2 : SSs X M ss mss) : SSs X M (st :: ss) (ms :: mss) := by
  intro σ H mσ mh ρ R S fl mh' e D P
  simp only [evSs] at e
  obtain ⟨f1, m1, e1, e⟩ := bind_ok e
  refine ⟨_, pss_cons ps_tS1 pss_tSS, h1 σ H mσ mh ρ R S f1 m1 e1 _ ?_⟩
  cases f1 with
  | nx mσ1 => exact fun σ1 H1 ρ1 R1 S1 T1 => h2 σ1 H1 mσ1 m1 ρ1 R1 S1 fl mh' e D (P.after T1)
  | ret v => cases e; exact P
  | brk _ => cases e; exact P
  | cont _ => cases e; exact P
theorem ss_pass : SS X M (.Pass pos) .pass := by
  intro σ H mσ mh ρ R S fl mh' e D P
  simp only [evS] at e; cases e
  exact ⟨_, ps_pass, P σ H ρ R S .refl⟩
theorem ss_brk : SS X M (.Break pos) .brk := by
  intro σ H mσ mh ρ R S fl mh' e D P
  simp only [evS] at e; cases e
  exact ⟨_, ps_break, P σ H ρ R S .refl⟩
theorem ss_cont : SS X M (.Continue pos) .cont := by
  intro σ H mσ mh ρ R S fl mh' e D P
  simp only [evS] at e; cases e
  exact ⟨_, ps_continue, P σ H ρ R S .refl⟩
theorem ss_expr (hs : swapsWith a none pos.line X.env = pure false) (ha : SE X M a ma) : SS X M (.Expr a pos) (.expr ma) := by
  intro σ H mσ mh ρ R S fl mh' e D P
  simp only [evS] at e
  obtain ⟨x, h1, e1, e⟩ := bind_ok e
  cases e
  exact ⟨_, ps_expr pe_tS hs, ha σ H mσ mh ρ R S x _ e1 _ fun v H1 ρ1 R1 r1 S1 => P σ H1 ρ1 R1 (S.stp R S1) S1⟩
theorem ss_doc {x : Str} {j : Nat} {p2 : Pos} : SS X M (.Expr (.Constant (.str x) j p2) pos) .pass := by
  intro σ H mσ mh ρ R S fl mh' e D P
  simp only [evS] at e; cases e
  exact ⟨_, ps_doc, P σ H ρ R S .refl⟩
theorem ss_ret (ha : SE X M a ma) : SS X M (.Return (some a) pos) (.ret ma) := by
  intro σ H mσ mh ρ R S fl mh' e D P
  simp only [evS] at e
  obtain ⟨x, h1, e1, e⟩ := bind_ok e
  cases e
  exact ⟨_, ps_ret pe_tS, ha σ H mσ mh ρ R S x _ e1 _ P⟩
theorem ss_retN : SS X M (.Return none pos) .retN := by
  intro σ H mσ mh ρ R S fl mh' e D P
  simp only [evS] at e
  cases e
  exact ⟨_, ps_retN, Post.same P R .non⟩
theorem ss_ite (hc : ST X M a ma) (h1 : SSs X M ss mss) (h2 : SSs X M ts mts) : SS X M (.If a ss ts pos) (.ite ma mss mts) := by
  intro σ H mσ mh ρ R S fl mh' e D P
  simp only [evS] at e
  obtain ⟨x, m1, e1, e⟩ := bind_ok e
  refine ⟨_, ps_if pt_tT pss_tSS pss_tSS, ?_⟩
  split at e
  · refine hc σ H mσ mh ρ R S x m1 e1 true (by assumption) _ fun H1 ρ1 R1 S1 => ?_
    rw [if_pos rfl]
    exact h1 σ H1 mσ m1 ρ1 R1 (S.stp R S1) fl mh' e D (P.after S1)
  · refine hc σ H mσ mh ρ R S x m1 e1 false (by assumption) _ fun H1 ρ1 R1 S1 => ?_
    rw [if_neg Bool.false_ne_true]
    exact h2 σ H1 mσ m1 ρ1 R1 (S.stp R S1) fl mh' e D (P.after S1)
  · cases e
theorem ofO_ok {α : Type} {o : Option α} {h h' : MH} {v : α} (e : ofO o h = .ok v h') : o = some v ∧ h' = h := by
  cases o with
  | none => cases e
  | some b => cases e; exact ⟨rfl, rfl⟩
theorem ss_asg {tg : Expr} {mt : MT} (hs : swapsWithSole [tg] a pos.line X.env = pure false) (hw : swappedStores [tg] a X.env = pure none) (h1 : (assignEach [tg] X.env).map (·.2) = [assign tg X.env]) (ha : SE X M a ma) (hg : SG X tg mt) : SS X M (.Assign [tg] a pos) (.asg mt ma) := by
  intro σ H mσ mh ρ R S fl mh' e D P
  simp only [evS] at e
  obtain ⟨x, m1, e1, e⟩ := bind_ok e
  obtain ⟨e2, rfl⟩ := ofO_ok e
  cases q : asgT mt x mσ with
  | none => rw [q] at e2; cases e2
  | some mσ1 =>
    rw [q] at e2
    cases e2
    refine ⟨_, ps_asg pe_tS pg_tGt hs hw h1, ha σ H mσ mh ρ R S x _ e1 _ fun v H1 ρ1 R1 r1 S1 => ?_⟩
    exact hg σ H1 mσ mσ1 _ ρ1 v x R1 (S.stp R S1) r1 q _ fun σ' S' _ => P σ' H1 ρ1 R1 S' S1
/-- y = [..] on one line -/
theorem ss_asgLc {y : Str} {py : Pos} {j : Nat} {elt tg iter : Expr} {ifs : List Expr} {scope : Scope} {own : List (Str × Nat)} {lpos : Pos} {melt : ME} {mt : MT} {ik : IK} {mifs : List ME} (hc : X.calm = true) (hN : X.N.Nodup) (hy : X.N[j]? = some y) (hyl : X.env.scope.names.lookup y = some .local)
    (hsw : swapsWith (.ListComp elt [⟨tg, iter, ifs, 0⟩] scope lpos) (some (.Name y py)) pos.line X.env = pure true) (ok : BlkOk X.N X.env.scope scope own)
    (hi : SI X M tg iter ik ma mb) (hsl : ∀ i ∈ mt.slots, i ∈ own.map (·.2))
    (hg : ∀ (s : Shared) (H : Hp) (C : Addr) (cl : List (Str × Addr)) (fp : List Addr), SG (X.blk s H scope (compEnvC scope cl C X.env) fp) tg mt)
    (ht : ∀ (s : Shared) (H : Hp) (C : Addr) (cl : List (Str × Addr)) (fp : List Addr), STs (X.blk s H scope (compEnvC scope cl C X.env) fp) M ifs mifs)
    (he : ∀ (s : Shared) (H : Hp) (C : Addr) (cl : List (Str × Addr)) (fp : List Addr), SE (X.blk s H scope (compEnvC scope cl C X.env) fp) M elt melt)
    (hs : ∀ x, foldedSetIterable iter X.env x = pure x) :
    SS X M (.Assign [.Name y py] (.ListComp elt [⟨tg, iter, ifs, 0⟩] scope lpos) pos) (.asg (.nm j) (.lc melt mt ik ma mb mifs (own.map (·.2)))) := by
  intro σ H mσ mh ρ R S fl mh' e D P
  simp only [evS] at e
  obtain ⟨x, m1, e1, e⟩ := bind_ok e
  obtain ⟨e2, rfl⟩ := ofO_ok e
  simp only [asgT, Option.map_some, Option.some.injEq] at e2
  subst e2
  refine ⟨_, ps_setLc hc hN hy hyl hsw pi_tIt ok (fun s H C cl fp => gLc_ok s H C cl fp) (fun s H C cl fp => ttLc_ok s H C cl fp) (fun s H C cl fp => teLc_ok s H C cl fp) hs, ?_⟩
  exact lc_rd (Q := fun v H1 => D.nx (σ.set j (some v)) H1) hi hsl hg ht he R S e1 fun v H1 ρ1 R1 r1 S1 => P _ H1 ρ1 R1 ((S.stp R S1).set r1 j) S1
theorem ss_asgSub (hu : X.A.units + 1 < cLine) {p2 : Pos} (hs : swapsWithSole [.Subscript o i p2] a pos.line X.env = pure false) (hw : swappedStores [.Subscript o i p2] a X.env = pure none)
    (h1 : (assignEach [.Subscript o i p2] X.env).map (·.2) = [assign (.Subscript o i p2) X.env]) (hsub : ∀ {t : TSet}, PSet X t → PG X (.Subscript o i p2) (gSub (tS X o) (tS X i) t))
    (ha : SE X M a ma) (ho : SE X M o mo) (hi : SE X M i mi) : SS X M (.Assign [.Subscript o i p2] a pos) (.asgSub mo mi ma) := by
  intro σ H mσ mh ρ R S fl mh' e D P
  simp only [evS] at e
  obtain ⟨x, m1, e1, e⟩ := bind_ok e
  obtain ⟨y, m2, e2, e⟩ := bind_ok e
  obtain ⟨z, m3, e3, e⟩ := bind_ok e
  split at e
  · rename_i m4 e4
    cases e
    obtain ⟨t, ht, hq⟩ := setS (X := X) hu e4
    refine ⟨_, ps_asg pe_tS (hsub ht) hs hw h1, ha σ H mσ mh ρ R S x _ e1 _ fun v H1 ρ1 R1 r1 S1 => ?_⟩
    refine ho σ H1 mσ m1 ρ1 R1 (S.stp R S1) y _ e2 _ fun w H2 ρ2 R2 r2 S2 => ?_
    refine hi σ H2 mσ m2 ρ2 R2 ((S.stp R S1).stp R1 S2) z _ e3 _ fun u H3 ρ3 R3 r3 S3 => ?_
    refine hq ρ3 H3 w u v R3 (r2.stp R2 S3) r3 ((r1.stp R1 S2).stp R2 S3) _ fun H4 R4 S4 => ?_
    exact P σ H4 ρ3 R4 ((((S.stp R S1).stp R1 S2).stp R2 S3).stp R3 S4) (((S1.trans S2).trans S3).trans S4)
  · cases e
/-! ### loops -/
theorem ss_whl (hp : PassesOwn (model X.prog X.w) X.A X.env X.xe) (hc : ST X M a ma) (hb : SSs X M ss mss) : SS X M (.While a ss [] pos) (.whl ma mss) := by
  intro σ H mσ mh ρ R S fl mh' e D P
  simp only [evS] at e
  refine ⟨_, ps_while hp pt_tT pss_tSS, ?_⟩
  refine ⟨fun n σ1 H1 => ∃ mσ1 m1 ρ1, RepH X.K ρ1 m1 H1 ∧ RepS X.K ρ1 H1 mσ1 σ1 ∧ Stp ρ mh H ρ1 m1 H1 ∧ whlGo (fun σ h => evE M ma σ h) (fun σ h => evSs M mss σ h) n mσ1 m1 = .ok fl mh', ⟨M.fuel, mσ, mh, ρ, R, S, .refl, e⟩, ?_⟩
  rintro n σ1 H1 ⟨mσ1, m1, ρ1, R1, S1, T1, e⟩
  cases n with
  | zero => cases e
  | succ n =>
    simp only [whlGo] at e
    obtain ⟨x, m2, e1, e⟩ := bind_ok e
    split at e
    · refine hc σ1 H1 mσ1 m1 ρ1 R1 S1 x m2 e1 true (by assumption) _ fun H2 ρ2 R2 T2 => ?_
      rw [if_pos rfl]
      obtain ⟨f1, m3, e3, e⟩ := bind_ok e
      refine ⟨fun σ' H' => ∃ mσ1 m1 ρ1, RepH X.K ρ1 m1 H' ∧ RepS X.K ρ1 H' mσ1 σ' ∧ Stp ρ mh H ρ1 m1 H' ∧ whlGo (fun σ h => evE M ma σ h) (fun σ h => evSs M mss σ h) n mσ1 m1 = .ok fl mh', fun σ' H' z => ⟨n, by omega, z⟩, ?_⟩
      refine hb σ1 H2 mσ1 m2 ρ2 R2 (S1.stp R1 T2) f1 m3 e3 _ ?_
      cases f1 with
      | nx mσ3 => exact fun σ3 H3 ρ3 R3 S3 T3 => ⟨mσ3, m3, ρ3, R3, S3, (T1.trans T2).trans T3, e⟩
      | cont mσ3 => exact fun σ3 H3 ρ3 R3 S3 T3 => ⟨mσ3, m3, ρ3, R3, S3, (T1.trans T2).trans T3, e⟩
      | brk mσ3 => cases e; exact fun σ3 H3 ρ3 R3 S3 T3 => P σ3 H3 ρ3 R3 S3 ((T1.trans T2).trans T3)
      | ret v => cases e; exact Post.after P (T1.trans T2)
    · cases e
      refine hc σ1 H1 mσ1 m1 ρ1 R1 S1 x _ e1 false (by assumption) _ fun H2 ρ2 R2 T2 => ?_
      rw [if_neg Bool.false_ne_true]
      exact P σ1 H2 ρ2 R2 (S1.stp R1 T2) (T1.trans T2)
    · cases e
theorem ss_for {tg iter : Expr} {mt : MT} {ik : IK} (hp : PassesOwn (model X.prog X.w) X.A X.env X.xe) (hc : X.calm = true) (hs : ∀ x, foldedSetIterable iter X.env x = pure x) (hi : SI X M tg iter ik ma mb) (hg : SG X tg mt) (hb : SSs X M ss mss) :
    SS X M (.For tg iter ss [] pos) (.for_ mt ik ma mb mss) := by
  intro σ H mσ mh ρ R S fl mh' e D P
  simp only [evS] at e
  obtain ⟨x, h1, e1, e⟩ := bind_ok e
  obtain ⟨y, h2, e2, e⟩ := bind_ok e
  split at e
  · rename_i it e3
    split at e
    · rename_i xs e4
      refine ⟨_, ps_for hp hc pi_tIt pg_tGt pss_tSS hs, ?_⟩
      refine hi σ H mσ mh ρ R S x h1 y h2 it e1 e2 e3 _ fun J H1 ρ1 R1 S1 ok1 => ?_
      have RS1 := S.stp R S1
      generalize hst : (fun (v : MV) (σ : MS') (h : MH) => forStep (asgT mt v σ) (fun σ h => evSs M mss σ h) h) = step at e
      refine ⟨fun i n σc Hc => ∃ mσc mc ρc, forGo it step n i mσc mc = .ok fl mh' ∧ RepH X.K ρc mc Hc ∧ RepS X.K ρc Hc mσc σc ∧ Stp ρ1 h2 H1 ρc mc Hc, ⟨xs.length, mσ, h2, ρ1, e, R1, RS1, .refl⟩, ?_⟩
      rintro i n σc Hc ⟨mσc, mc, ρc, ec, Rc, RSc, Tc⟩
      cases n with
      | zero =>
        simp only [forGo] at ec
        split at ec
        · cases ec
          exact .inl ⟨(ok1 ρc _ Hc Rc Tc i).2 (by assumption), P σc Hc ρc Rc RSc (S1.trans Tc)⟩
        · cases ec
      | succ n =>
        simp only [forGo] at ec
        split at ec
        · rename_i v ev
          obtain ⟨f1, m4, e6, ec⟩ := bind_ok ec
          obtain ⟨go, yl⟩ := (ok1 ρc mc Hc Rc Tc i).1 _ _ ev
          refine .inr ⟨go, fun σ' H' => ∃ mσc mc ρc, forGo it step n (i + 1) mσc mc = .ok fl mh' ∧ RepH X.K ρc mc H' ∧ RepS X.K ρc H' mσc σ' ∧ Stp ρ1 h2 H1 ρc mc H', fun σ' H' z => ⟨n, by omega, z⟩, fun xv H' hy => ?_⟩
          obtain ⟨ρy, Ry, Sy, ry⟩ := yl xv H' hy
          rw [← hst] at e6
          simp only [forStep] at e6
          split at e6
          · rename_i mσ2 e7
            refine hg σc H' mσc mσ2 mc ρy xv v Ry (RSc.stp Rc Sy) ry e7 _ fun σ2 RS2 _ => ?_
            refine hb σ2 H' mσ2 mc ρy Ry RS2 f1 m4 e6 _ ?_
            have T2 := Tc.trans Sy
            cases f1 with
            | nx mσ3 => exact fun σ3 H3 ρ3 R3 S3 T3 => ⟨mσ3, m4, ρ3, ec, R3, S3, T2.trans T3⟩
            | cont mσ3 => exact fun σ3 H3 ρ3 R3 S3 T3 => ⟨mσ3, m4, ρ3, ec, R3, S3, T2.trans T3⟩
            | brk mσ3 => cases ec; exact fun σ3 H3 ρ3 R3 S3 T3 => P σ3 H3 ρ3 R3 S3 (S1.trans (T2.trans T3))
            | ret v => cases ec; exact Post.after P (S1.trans T2)
          · cases e6
        · cases ec
    · cases e
  · cases e
end
end Mn

set_option maxHeartbeats 4000000
/-! Fn: a def keeps the promise of its small run; the law's own call. -/
namespace Mn
open PySem PySem.Spec PyProof.Rows L2

section
variable {K : PySem.W.Frag} {ρ ρ' : List Addr} {mh mh' h h0 : MH} {H H' : Hp}
mutual
theorem Rep.bel : ∀ {x : MV} {v : V}, Rep K ρ H x v → Mn.bel ρ.length x = true
  | .non, _, _ => rfl
  | .bl _, _, _ => rfl
  | .int _, _, _ => rfl
  | .str _, _, _ => rfl
  | .ref a, _, h => by cases h with | ref e => simpa [Mn.bel] using (List.getElem?_eq_some_iff.mp e).1
  | .tup xs, _, h => by cases h with | tup s r => simpa [Mn.bel] using Reps.bel r
theorem Reps.bel : ∀ {x : List MV} {v : List V}, Reps K ρ H x v → Mn.bels ρ.length x = true
  | [], _, _ => rfl
  | x :: xs, _, h => by cases h with | cons a b => simp [Mn.bels, Rep.bel a, Reps.bel b]
end
theorem KReps.bel {x : List (Key × MV)} {v : List (Key × V)} (h : KReps K ρ H x v) : x.all (fun p => Mn.bel ρ.length p.2) = true := by
  induction h with
  | nil => rfl
  | cons a _ ih => simp [a.bel] at ih ⊢; exact ih
theorem RepO.bel {o : MO} {p : Addr} (h : RepO K ρ H o p) : o.bel ρ.length = true := by
  cases o with
  | lst xs => obtain ⟨_, _, r⟩ := h; exact r.bel
  | fro xs => obtain ⟨_, _, r⟩ := h; exact r.bel
  | dct xs => obtain ⟨_, _, r⟩ := h; exact r.bel
mutual
theorem Rep.cut {n : Nat} : ∀ {x : MV} {v : V}, Rep K ρ H x v → Mn.bel n x = true → Rep K (ρ.take n) H x v
  | .non, _, h, _ => by cases h; exact .non
  | .bl _, _, h, _ => by cases h; exact .bl _
  | .int _, _, h, _ => by cases h; exact .int _
  | .str _, _, h, _ => by cases h; exact .str _
  | .ref a, _, h, b => by
    cases h with
    | ref e =>
      simp [Mn.bel] at b
      exact .ref (by rw [List.getElem?_take_of_lt b]; exact e)
  | .tup xs, _, h, b => by cases h with | tup s r => exact .tup s (Reps.cut r (by simpa [Mn.bel] using b))
theorem Reps.cut {n : Nat} : ∀ {x : List MV} {v : List V}, Reps K ρ H x v → Mn.bels n x = true → Reps K (ρ.take n) H x v
  | [], _, h, _ => by cases h; exact .nil
  | x :: xs, _, h, q => by
    cases h with
    | cons a b =>
      simp [Mn.bels] at q
      exact .cons (Rep.cut a q.1) (Reps.cut b q.2)
end
theorem KReps.cut {n : Nat} {x : List (Key × MV)} {v : List (Key × V)} (h : KReps K ρ H x v) (q : x.all (fun p => Mn.bel n p.2) = true) : KReps K (ρ.take n) H x v := by
  induction h with
  | nil => exact .nil
  | cons a _ ih =>
    simp only [List.all_cons, Bool.and_eq_true] at q
    exact .cons (a.cut q.1) (ih q.2)
theorem RepO.cut {n : Nat} {o : MO} {p : Addr} (h : RepO K ρ H o p) (b : o.bel n = true) : RepO K (ρ.take n) H o p := by
  cases o with
  | lst xs => obtain ⟨vs, e, r⟩ := h; exact ⟨vs, e, r.cut b⟩
  | fro xs => obtain ⟨vs, e, r⟩ := h; exact ⟨vs, e, r.cut b⟩
  | dct xs => obtain ⟨vs, e, r⟩ := h; exact ⟨vs, e, r.cut b⟩
mutual
theorem noRef_bel : ∀ {x : MV} {n : Nat}, noRef x = true → Mn.bel n x = true
  | .non, _, _ => rfl
  | .bl _, _, _ => rfl
  | .int _, _, _ => rfl
  | .str _, _, _ => rfl
  | .ref a, _, h => by simp [noRef] at h
  | .tup xs, _, h => by simp [noRef] at h; simp [Mn.bel, noRefs_bel h]
theorem noRefs_bel : ∀ {x : List MV} {n : Nat}, noRefs x = true → Mn.bels n x = true
  | [], _, _ => rfl
  | x :: xs, _, h => by simp [noRefs] at h; simp [Mn.bels, noRef_bel h.1, noRefs_bel h.2]
end
theorem RepH.cut (R0 : RepH K ρ h0 H) (R : RepH K ρ' h H') (hk : keptOk h0 h = true) (hle : h0.length ≤ h.length) : RepH K (ρ'.take h0.length) (h.take h0.length) H' := by
  refine ⟨by simp [R.len], fun a b p oa ob e1 e2 e3 e4 m1 m2 => ?_, fun a p o e1 e2 => ?_⟩
  · have la : a < h0.length := by have := (List.getElem?_eq_some_iff.mp e3).1; simp at this; omega
    have lb : b < h0.length := by have := (List.getElem?_eq_some_iff.mp e4).1; simp at this; omega
    rw [List.getElem?_take_of_lt la] at e1 e3
    rw [List.getElem?_take_of_lt lb] at e2 e4
    exact R.inj a b p oa ob e1 e2 e3 e4 m1 m2
  · have la : a < h0.length := by have := (List.getElem?_eq_some_iff.mp e2).1; simp at this; omega
    rw [List.getElem?_take_of_lt la] at e1 e2
    refine (R.obj a p o e1 e2).cut ?_
    unfold keptOk at hk
    rw [List.all_eq_true] at hk
    have := hk a (by simpa using la)
    rw [e2] at this
    simp only [Bool.or_eq_true, decide_eq_true_eq] at this
    rcases this with z | z
    · obtain ⟨q, f1, f2⟩ := R0.get z.symm
      have := f2.bel
      rw [R0.len] at this
      exact this
    · exact z
theorem Mu.cut {n : Nat} {p : Addr} (m : Mu (ρ.take n) (mh.take n) p) : Mu ρ mh p := by
  obtain ⟨a, o, e1, e2, e3⟩ := m
  have la : a < n := by have := (List.getElem?_eq_some_iff.mp e2).1; simp at this; omega
  rw [List.getElem?_take_of_lt la] at e1 e2
  exact ⟨a, o, e1, e2, e3⟩
theorem trim_ok {v mv : MV} {w : V} (e : trimM h0 v h = .ok mv mh') (R0 : RepH K ρ h0 H) (R : RepH K ρ' h H') (r : Rep K ρ' H' v w) (S : Stp ρ h0 H ρ' h H') :
    ∃ ρ2, RepH K ρ2 mh' H' ∧ Rep K ρ2 H' mv w ∧ Stp ρ h0 H ρ2 mh' H' := by
  have same : ∀ {z}, Mn.R.ok v h = Mn.R.ok mv z → z = mh' → ∃ ρ2, RepH K ρ2 mh' H' ∧ Rep K ρ2 H' mv w ∧ Stp ρ h0 H ρ2 mh' H' := fun {z} q q2 => by
    cases q; subst q2; exact ⟨ρ', R, r, S⟩
  have hpre : ρ'.take h0.length = ρ := by
    obtain ⟨t, ht⟩ := S.pre
    rw [← ht, ← R0.len]; simp
  unfold trimM at e
  split at e
  · rename_i hc
    rw [Bool.and_eq_true, decide_eq_true_eq] at hc
    have Rc := R0.cut R hc.2 hc.1
    rw [hpre] at Rc
    have Sc : Stp ρ h0 H ρ (h.take h0.length) H' := ⟨List.prefix_refl _, fun p m => S.new p (by rw [← hpre] at m; exact m.cut), S.frm⟩
    split at e
    · cases e
      rename_i hn
      refine ⟨ρ, Rc, ?_, Sc⟩
      have := r.cut (n := h0.length) (noRef_bel hn)
      rw [hpre] at this
      exact this
    · split at e
      · rename_i a _
        split at e
        · rename_i ha
          split at e
          · rename_i xs hx
            split at e
            · cases e
              rename_i hn
              cases r with
              | @ref _ p hp =>
                obtain ⟨vs, f1, f2⟩ := R.lst hp hx
                have nm : ¬ Mu ρ (h.take h0.length) p := fun ⟨b, o, e1, e2, e3⟩ => by
                  have lb : b < h0.length := by have := (List.getElem?_eq_some_iff.mp e2).1; simp at this; omega
                  rw [List.getElem?_take_of_lt lb] at e2
                  have := R.inj b a p o (.lst xs) (prefix_get S.pre e1) hp e2 hx e3 rfl
                  omega
                have rr : Reps K ρ H' xs vs := by
                  have := f2.cut (n := h0.length) (noRefs_bel hn)
                  rw [hpre] at this
                  exact this
                refine ⟨ρ ++ [p], Rc.adopt f1 nm rr, .ref (by rw [← R0.len]; simp), Sc.pre.trans (List.prefix_append _ _), fun q m => ?_, Sc.frm⟩
                rcases m.app Rc.len with m | rfl
                · exact Sc.new q m
                · exact S.new q ⟨a, _, hp, hx, rfl⟩
            · exact same e (by cases e; rfl)
          · exact same e (by cases e; rfl)
        · exact same e (by cases e; rfl)
      · exact same e (by cases e; rfl)
  · exact same e (by cases e; rfl)
end
theorem EC.nox {X : Cx} {M : Cm} {F B : List Str} {k : Nat} (c : EC X M F B k) : EC X.nox M F B k := ⟨c.calm, c.nd, c.gd, c.room, c.call, c.blt, c.gl⟩
/-- where a def's body runs -/
structure BodyCx (X : Cx) (sc : Scope) (N : List Str) : Prop where
  sc : X.env.scope = sc
  N : X.N = N
  fn : ∀ x, X.fn x = true
  xe : X.xe = fun _ _ => False
theorem fnG_of {P : Program} {w : World} {K : PySem.W.Frag} {mg : Str → Option Value} {base : Heap} {x qual : Str} {st : Stmt} {f : Addr} {fd : FuncData} {N ps : List Str} {k W : Nat} {Γ : Str → Option FD} {gl : Str → Option MV} {d : Nat} {mb : List MS}
    (FF : Fun K x qual st f fd) (S : FnScope N ps (defScope st)) (hΓ : Γ x = some ⟨ps.length, N.length, mb⟩)
    (hbody : ∀ X : Cx, X.prog = P → X.w = w → X.K = K → X.mg = mg → X.base = base → X.calm = true → X.A.guards = some [] → Room k X.A → BodyCx X (defScope st) N → X.env.scope.kind = .function → SSs X ⟨runF Γ gl W d, gl, W⟩ (defBody st) mb) :
    FnG P w K mg base (k + 1) f fd ps (spM K (runF Γ gl W (d + 1)) x ps.length) := by
  obtain ⟨oc, od, kV, doc, pm, an, cdv, ct, osl, rfl, lk, hcd⟩ := FF.ex
  have hlen : ∀ vs H Q E, spM K (runF Γ gl W (d + 1)) x ps.length vs H Q E → vs.length = ps.length := fun vs H Q E h => by
    obtain ⟨ρ, mh, ms, mv, mh', R, r, hl, _⟩ := h
    rw [← r.length, hl]
  refine ⟨hlen, fun A outer s H args us vs Q E hg hr e0 hbt rv hsp => ?_⟩
  have lenV := hlen vs H Q E hsp
  have inK : K.In s.heap := e0.mod.kin.keeps fun b o q => (e0.bs b o q).1
  have kinds : ∀ y ∈ ps.zip us, (defScope st).names.lookup y.1 = some .local ∨ ((defScope st).names.lookup y.1 = some .cell ∧ ((cellsFrom (s.heap.objs.size + 1) (defScope st).names []).lookup y.1).isSome = true) := fun y hy => by
    obtain ⟨n, u⟩ := y
    cases S.par n (List.of_mem_zip hy).1 with
    | inl q => exact Or.inl q
    | inr q => exact Or.inr ⟨q, PySem.W.cellsFrom_some _ _ _ (Or.inl q)⟩
  have hrec := PySem.W.codeRec_of inK hcd
  refine codeAny_call_function hr.depth (inK f _ lk) rfl S.co S.gen rfl hrec ?_
  refine hbt _ _ _ _ ?_
  refine wpAny_newFunctionEnv_cells S.kind kinds ?_
  intro env eenv s1 fresh
  subst eenv
  refine ⟨(e0.mod.nolimit.keeps fun b o q => (e0.bs b o q).1).keeps fresh.toInCall.keep, codeAny_func ?_⟩
  obtain ⟨ρ, mh, ms, mv, mh', R, r, hl, e, Pq⟩ := hsp
  simp only [runF, hΓ, hl, if_true] at e
  have init := inv_start (CX := NoX) (P := P) (w := w) (mg := mg) (base := base) (N := N) (E := E) S hr.hd e0 lenV rv fresh
  cases q : evSs ⟨runF Γ gl W d, gl, W⟩ mb (ms.map some ++ List.replicate (N.length - ps.length) none) mh with
  | bad => rw [q] at e; cases e
  | exc _ _ _ => rw [q] at e; cases e
  | ok fl m1 =>
    rw [q] at e
    have rs : RepS K ρ H (ms.map some ++ List.replicate (N.length - ps.length) none) (L2.start N vs) := by
      refine ⟨?_, fun i m z => ?_⟩
      · unfold L2.start
        rw [List.length_append, List.length_append, List.length_map, List.length_map, List.length_replicate, List.length_replicate, r.length, lenV]
      · by_cases hi : i < ms.length
        · rw [List.getElem?_append_left (by simpa using hi)] at z
          rw [List.getElem?_map] at z
          cases z2 : ms[i]? with
          | none => rw [z2] at z; cases z
          | some m' =>
            rw [z2] at z
            cases z
            obtain ⟨v, g, rr⟩ := r.get z2
            refine ⟨v, ?_, rr⟩
            unfold L2.start
            rw [List.getElem?_append_left (by rw [List.length_map, ← r.length]; exact hi), List.getElem?_map, g]
            rfl
        · rw [List.getElem?_append_right (by simpa using hi)] at z
          have := List.getElem?_eq_some_iff.mp z
          obtain ⟨z1, z2⟩ := this
          simp at z2
    have main := hbody (cxOf NoX P w K mg base N qual (defScope st) f cdv A outer s H E).nox rfl rfl rfl rfl rfl rfl hg (hr.deeper _) ⟨rfl, rfl, fun _ => rfl, rfl⟩ S.kind
      (L2.start N vs) H _ mh ρ R rs fl m1 q { nx := fun _ H' => Q .non H', rt := Q } (by
        cases fl with
        | nx mσ => exact fun σ' H' ρ' R' _ S' => by {
            obtain ⟨ρ2, a1, a2, a3⟩ := trim_ok e R R' .non S'
            exact Pq _ _ _ a1 a2 a3 }
        | ret v => exact fun w' H' ρ' R' r' S' => by {
            obtain ⟨ρ2, a1, a2, a3⟩ := trim_ok e R R' r' S'
            exact Pq _ _ _ a1 a2 a3 }
        | brk _ => cases e
        | cont _ => cases e)
    obtain ⟨t, ht, hq⟩ := main
    refine wpAny_mono (ht.nox.run [] s1 (L2.start N vs) H _ init hq) (fun fl' s' hs => ?_) fun e' s' hs => hs
    cases fl' with
    | ret u => obtain ⟨v, σ', H', J, rv', qv⟩ := hs; exact ⟨v, H', J.os, J.bare, J.base, J.hok, rv', qv⟩
    | next => obtain ⟨σ', H', J, qv⟩ := hs; exact ⟨V.non, H', J.os, J.bare, J.base, J.hok, rfl, qv⟩
    | brk => obtain ⟨_, _, _, qv⟩ := hs; exact (show False from qv).elim
    | cont => obtain ⟨_, _, _, qv⟩ := hs; exact (show False from qv).elim
end Mn

/-! RevT: t[::-1] of tuples and lists. -/
namespace Mn
open PySem PySem.Spec PyProof.Rows L2 HT
section
variable {prog : Program} {w : World} {A : Around} {E : Value → Shared → Prop} {s : Shared}
theorem adjust_back (n : Nat) : Builtin.Slice.sliceAdjust none none (-1) (n : Int) = ((n : Int) - 1, -1) := rfl
theorem places_back (n : Nat) : Builtin.Slice.slicePlaces ((n : Int) - 1) (-1) (-1) = n := by
  unfold Builtin.Slice.slicePlaces
  rw [if_neg (by decide)]
  by_cases h : (n : Int) - 1 > -1
  · rw [if_pos h, show (-(-1) : Int) = 1 by decide, Int.ediv_one]
    omega
  · rw [if_neg h]
    omega
theorem slice_back {sl : Addr} {vs : Value} {n : Nat} {Q : Int × Int × Nat → Shared → Prop} (hs : s.heap.IsSliceOf sl .none .none vs) (ps : IsPart vs (some (-1)))
    (h : Q ((n : Int) - 1, -1, n) s) : wpAny (model prog w) A (Builtin.Slice.sliceApplied (.ref sl) (pure (n : Int))) Q E s := by
  obtain ⟨os, hos, hcs, hds⟩ := id hs
  unfold Builtin.Slice.sliceApplied Builtin.Slice.sliceFields
  refine wpAny_bind (wpAny_bind (wpAny_field hos hds (x := .none) rfl (wpAny_bind (wpAny_field hos hds (x := .none) rfl (wpAny_bind (wpAny_field hos hds (x := vs) rfl (wpAny_pure ?_)))))))
  refine wpAny_bind (slicePart_ ps ?_)
  show wpAny _ _ (if ((-1 : Int) == 0) = true then _ else _) _ _ s
  rw [if_neg (by decide)]
  refine wpAny_bind (slicePart_none (wpAny_bind (slicePart_none (wpAny_bind (wpAny_pure ?_)))))
  show wpAny _ _ (pure ((n : Int) - 1, (-1 : Int), Builtin.Slice.slicePlaces ((n : Int) - 1) (-1) (-1))) _ _ s
  rw [places_back]
  exact wpAny_pure h
theorem pick_back (xs : Array Value) : ((List.range xs.size).filterMap fun (m : Nat) => xs[(((xs.size : Int) - 1) + (m : Int) * (-1)).toNat]?).toArray = xs.toList.reverse.toArray := by
  have e : (fun (m : Nat) => xs[(((xs.size : Int) - 1) + (m : Int) * (-1)).toNat]?) = fun m => xs[xs.size - 1 - m]? := by
    funext m
    have : (((xs.size : Int) - 1) + (m : Int) * (-1)).toNat = xs.size - 1 - m := by omega
    rw [this]
  rw [e]
  have h2 : (List.range xs.size).filterMap (fun m => xs[xs.size - 1 - m]?) = ((List.range xs.size).map fun k => xs.size - 1 - k).filterMap (xs[·]?) := by
    rw [List.filterMap_map]; rfl
  rw [h2, PySem.W.krv_range, List.filterMap_reverse, PySem.W.krv_all]
theorem item_back {t sl : Addr} {items : Array Value} {vs : Value} {Q : Value → Shared → Prop} (ht : IsTup s.heap t items) (hs : s.heap.IsSliceOf sl .none .none vs) (ps : IsPart vs (some (-1)))
    (h : Q (.ref s.heap.objs.size) { s with heap := s.heap.push { cls := .type "tuple", data := .seq items.toList.reverse.toArray } })
    (hsz : items.size ≤ sizeLine) : wpAny (model prog w) A (getItem (.ref t) (.ref sl)) Q E s := by
  have htake : sizeOk (.seq items.toList.reverse.toArray) := by
    show items.toList.reverse.toArray.size ≤ sizeLine
    rw [List.size_toArray, List.length_reverse, Array.length_toList]
    exact hsz
  obtain ⟨os, hos, hcs, hds⟩ := id hs
  have hTs : s.TypeIs (.ref sl) "slice" := ⟨os, hos, hcs⟩
  unfold getItem
  try with_reducible refine wpAny_holding ?_
  first | refine wpAny_bind (wpAny_pure ?_) | skip
  refine wpAny_bind (wpAny_sequenceKey ht.typeIs (by decide) ?_)
  refine wpAny_bind (wpAny_callSpecial?_slot (name := Str.ofString "__getitem__") ht.typeIs PyProof.Rows.slot_tuple_getitem
    (wpAny_call_entry PyProof.Rows.slot_tuple_getitem ht.typeIs entry_tuple_getitem ?_ (args_tuple_getitem _ _)))
  show wpAny _ _ (Builtin.Tuple.tupleItemsOf (.ref t) >>= _) _ _ s
  refine wpAny_bind (tupleItemsOf_ ht ?_)
  refine wpAny_bind (wpAny_typeOf hTs ?_)
  rw [if_pos (by decide)]
  refine wpAny_bind (slice_back (n := items.size) hs ps ?_)
  have hno : ¬ ((((items.size : Int) - 1) == 0 && (-1 : Int) == 1 && items.size == items.size) = true) := by
    intro q
    rw [Bool.and_eq_true, Bool.and_eq_true] at q
    exact absurd q.1.2 (by decide)
  show wpAny _ _ (if (((items.size : Int) - 1) == 0 && (-1 : Int) == 1 && items.size == items.size) = true then _ else _) _ _ s
  rw [if_neg hno, pick_back]
  first
    | exact wpAny_bind (m := Builtin.Tuple.tupleExact _) (wpAny_newObj_type (wpAny_pure ⟨_, rfl, wpAny_pure h⟩) htake)
    | exact wpAny_bind (m := Builtin.Tuple.tupleExact _) (wpAny_newObj_type (wpAny_bind (wpAny_pure (wpAny_pure ⟨_, rfl, wpAny_pure h⟩))) htake)
    | exact wpAny_bind (wpAny_bind (m := Builtin.Tuple.tupleExact _) (wpAny_newObj_type (wpAny_pure (wpAny_pure ⟨_, rfl, wpAny_pure h⟩)) htake))
    | exact wpAny_bind (wpAny_bind (m := Builtin.Tuple.tupleExact _) (wpAny_newObj_type (wpAny_pure ⟨_, rfl, wpAny_pure h⟩) htake))
end
section
variable {X : Cx} {M : Cm} {a : Expr} {ma : ME} {pos : Pos}
def tBackT (K : PySem.W.Frag) (te : TE) : TE := fun σ H Q => te σ H fun x H1 => ∃ a xs, x = .ref a ∧ SqT K H1 a xs ∧ ∀ p, H1 p = none → Q (.ref p) (upd H1 p (.tup xs.reverse))
theorem pe_backT {e : Expr} {te : TE} {k : Nat} {p1 p2 p3 pos : Pos} (he : PE X e te) : PE X (.Subscript e (.Slice none none (some (.UnaryOp .USub (.Constant (.int 1) k p1) p2)) p3) pos) (tBackT X.K te) := by
  refine ⟨fun pins s σ H Q I h => ?_⟩
  refine Subscript_ (thn (he.run pins s σ H _ I h) fun v s1 ⟨x, H1, I1, r1, q1⟩ => ?_)
  obtain ⟨a, xs, ex, hx, q⟩ := q1
  subst ex
  cases r1
  have hst : PO X (some (.UnaryOp .USub (.Constant (.int 1) k p1) p2)) (tPart (tUn (rU fun i => .int (-i)) (tC (.int 1)))) := po_some (pe_un un_neg pe_int)
  refine wpAny_Slice (thn (po_none.run pins s1 σ H1 (fun o H2 => o = none ∧ H2 = H1) I1 ⟨rfl, rfl⟩) fun vl s2 ⟨l, H2, I2, pl, el, e2⟩ => ?_)
  subst el e2
  refine thn (po_none.run pins s2 σ H2 (fun o H3 => o = none ∧ H3 = H2) I2 ⟨rfl, rfl⟩) fun vu s3 ⟨u, H3, I3, pu, eu, e3⟩ => ?_
  subst eu e3
  refine thn (hst.run pins s3 σ H3 (fun o H4 => o = some (-1) ∧ H4 = H3) I3 ⟨1, rfl, -1, rfl, rfl, rfl⟩) fun vs s4 ⟨o, H4, I4, ps, eo, e4⟩ => ?_
  subst eo e4
  cases pl
  cases pu
  have I5 : Inv X pins σ H4 { s4 with heap := s4.heap.push { cls := .type "slice", data := .fields #[.none, .none, vs] } } := I4.kept (t' := s4.toks) fun b ob q => Heap.get?_push_of_some _ q
  obtain ⟨its, r, ht, hz⟩ := I5.tuple hx
  have hlen := r.length
  show wpAny (model X.prog X.w) X.A (subscriptTail e (.Slice none none (some (.UnaryOp .USub (.Constant (.int 1) k p1) p2)) p3) (.ref a) (.ref s4.heap.objs.size)) (EP X pins σ Q) X.xe { s4 with heap := s4.heap.push { cls := .type "slice", data := .fields #[.none, .none, vs] } }
  refine tail_any (ops := [.ref a, .ref s4.heap.objs.size]) ht.typeIs PyProof.Rows.slot_tuple_getitem.lookup ?_ (by with_unfolding_all rfl)
  refine item_back ht (Heap.IsSliceOf.new _ .none .none vs) ps ?_ (by rw [List.size_toArray]; omega)
  refine ⟨.ref _, _, I5.laid (t' := s4.toks) (o := .tup xs.reverse) (fun b ob q => Heap.get?_push_of_some _ q) (Nat.le_refl _) ?_, rfl, q _ (I5.hok.fresh (Nat.le_refl _))⟩
  exact ⟨by rw [List.length_reverse]; omega, _, r.reverse, IsTup.new _ _⟩
theorem se_rev {k : Nat} {p1 p2 p3 : Pos} (ha : SE X M a ma) : SE X M (.Subscript a (.Slice none none (some (.UnaryOp .USub (.Constant (.int 1) k p1) p2)) p3) pos) (.rev ma) := by
  intro σ H mσ mh ρ R S mv mh' e Q P
  simp only [evE] at e
  obtain ⟨x, h1, e1, e⟩ := bind_ok e
  unfold revM at e
  split at e
  · cases e
    refine ⟨_, pe_backT pe_tS, ?_⟩
    refine ha σ H mσ mh ρ R S _ _ e1 _ fun v H1 ρ1 R1 r1 S1 => ?_
    cases r1 with
    | tup s r => exact ⟨_, _, rfl, s, fun p hn => (P.after S1).newT R1 r.reverse hn⟩
  · split at e
    · cases e
      rename_i a xs hl
      refine ⟨_, pe_revL pe_tS, ?_⟩
      refine ha σ H mσ mh ρ R S _ _ e1 _ fun v H1 ρ1 R1 r1 S1 => ?_
      cases r1 with
      | ref hp =>
        obtain ⟨vs, s, r⟩ := R1.lsts hp hl
        exact ⟨_, _, rfl, s, fun p hn => (P.after S1).newL R1 r.reverse hn⟩
    · cases e
  · cases e
end
end Mn

set_option maxHeartbeats 4000000
/-! Conv: from the program's syntax to the small one, checked. -/
namespace Mn
open PySem PySem.Spec PyProof.Rows L2

structure CP where
  N : List Str
  F : List Str
  B : List Str
  G : List Str
def visb (sc : Scope) (x : Str) : Bool := match sc.names.lookup x with
  | some .local => true
  | some .cell => true
  | some .free => true
  | _ => false
def glbb (sc : Scope) (x : Str) : Bool := match sc.names.lookup x with
  | some .globalImplicit => true
  | _ => false
def dbg (x : Str) : Bool := (x == ("__debug__" : Str)) || (x == ("__classdict__" : Str))
def slot (N : List Str) (x : Str) : Option Nat := match N.findIdx? (· == x) with
  | some i => if N[i]? = some x then some i else none
  | none => none
def noIf : Expr → Bool
  | .IfExp .. => false
  | _ => true
def plainE : Expr → Bool
  | .ListComp .. => false | .SetComp .. => false | .DictComp .. => false | .Starred .. => false | .Slice .. => false | .Set .. => false
  | .Call (.Name f _) [] [] _ => !(f == ("super" : Str))
  | _ => true
def noStar : Expr → Bool
  | .Starred .. => false
  | _ => true
def biOf (x : Str) : Option Bi := [Bi.len, .sum, .sorted, .tuple, .list, .int, .str, .repr, .all, .any, .min, .max, .abs].find? fun b => decide (b.nm = x)
def tyOf (x : Str) : Option Ty := [Ty.int, .bool, .str, .tuple, .list, .dict].find? fun b => decide (b.nm = x)
def meOf (x : Str) : Option Me := [Me.append, .extend, .pop, .insert, .count, .index, .reverse, .get, .items, .join, .split, .remove, .clear].find? fun b => decide (b.nm = x)
theorem biOf_nm {x : Str} {b : Bi} (h : biOf x = some b) : b.nm = x := by have := List.find?_some h; simpa using this
theorem tyOf_nm {x : Str} {b : Ty} (h : tyOf x = some b) : b.nm = x := by have := List.find?_some h; simpa using this
theorem meOf_nm {x : Str} {b : Me} (h : meOf x = some b) : b.nm = x := by have := List.find?_some h; simpa using this
/-- may this name be a target -/
def tgtb (fn : Str → Bool) (sc : Scope) (x : Str) : Bool := match sc.names.lookup x with
  | some .local => true
  | some .cell => fn x
  | _ => false
mutual
def cvT (p : CP) (fn : Str → Bool) (sc : Scope) : Expr → Option MT
  | .Name x _ => if tgtb fn sc x then (slot p.N x).map .nm else none
  | .Tuple ts _ _ => (cvTs p fn sc ts).map .tp
  | _ => none
def cvTs (p : CP) (fn : Str → Bool) (sc : Scope) : List Expr → Option (List MT)
  | [] => some []
  | t :: ts => if noStar t then match cvT p fn sc t, cvTs p fn sc ts with
    | some a, some b => some (a :: b)
    | _, _ => none else none
end
def ownOf (N : List Str) (scope : Scope) : List (Str × Nat) := scope.names.filterMap fun y => if y.2 == .local || y.2 == .cell then (slot N y.1).map fun i => (y.1, i) else none
def optAll : List (Option Expr) → Option (List Expr)
  | [] => some []
  | some e :: r => (optAll r).map (e :: ·)
  | none :: _ => none
theorem optAll_map : ∀ {ks : List (Option Expr)} {es : List Expr}, optAll ks = some es → ks = es.map some
  | [], _, h => by simp only [optAll] at h; cases h; rfl
  | none :: _, _, h => by simp [optAll] at h
  | some e :: r, _, h => by
    simp only [optAll] at h
    cases q : optAll r with
    | none => rw [q] at h; cases h
    | some es => rw [q] at h; cases h; rw [optAll_map q]; rfl
mutual
def cvE (p : CP) (sc : Scope) : Nat → Expr → Option ME
  | 0, _ => none
  | n + 1, e => match e with
    | .Constant (.int i) _ _ => some (.c (.int i))
    | .Constant (.bool b) _ _ => some (.c (.bl b))
    | .Constant .none _ _ => some (.c .non)
    | .Constant (.str x) _ _ => some (.c (.str x))
    | .Name x _ => if dbg x then none else if visb sc x then (slot p.N x).map .var else if glbb sc x && p.G.contains x then some (.glb x) else none
    | .BinOp a op b _ => match cvE p sc n a, cvE p sc n b with
      | some a, some b => some (.bin op a b)
      | _, _ => none
    | .UnaryOp .USub a _ => (cvE p sc n a).map .neg
    | .UnaryOp .Not a _ => if noIf a then (cvE p sc n a).map .not_ else none
    | .Compare a [op] [b] _ => if behindInMarks op b then none else match cvE p sc n a, cvE p sc n b with
      | some a, some b => some (.cmp op a b)
      | _, _ => none
    | .Compare a [o1, o2] [b, c] _ => if lastMarks [o1, o2] [b, c] then none else match cvE p sc n a, cvE p sc n b, cvE p sc n c with
      | some a, some b, some c => some (.chain o1 o2 a b c)
      | _, _, _ => none
    | .BoolOp op [a] _ => if noIf a then cvE p sc n a else none
    | .BoolOp .And (a :: b :: r) pos => if noIf a then match cvE p sc n a, cvE p sc n (.BoolOp .And (b :: r) pos) with
      | some a, some b => some (.and_ a b)
      | _, _ => none else none
    | .BoolOp .Or (a :: b :: r) pos => if noIf a then match cvE p sc n a, cvE p sc n (.BoolOp .Or (b :: r) pos) with
      | some a, some b => some (.or_ a b)
      | _, _ => none else none
    | .IfExp c a b _ => if noIf c then match cvE p sc n c, cvE p sc n a, cvE p sc n b with
      | some c, some a, some b => some (.ife c a b)
      | _, _, _ => none else none
    | .Tuple es _ _ => match cvA p sc n es with
      | some es => if es.length ≤ 1000 then some (.tup es) else none
      | none => none
    | .List es _ => match cvA p sc n es with
      | some es => if es.length ≤ 1000 then some (.lst es) else none
      | none => none
    | .Subscript a (.Slice none none none _) _ => (cvE p sc n a).map .sl
    | .Subscript a (.Slice none none (some (.UnaryOp .USub (.Constant (.int 1) _ _) _)) _) _ => (cvE p sc n a).map .rev
    | .Subscript a (.Slice (some lo) none none _) _ => match cvE p sc n a, cvE p sc n lo with
      | some a, some b => some (.slL a b)
      | _, _ => none
    | .Subscript a (.Slice none (some hi) none _) _ => match cvE p sc n a, cvE p sc n hi with
      | some a, some b => some (.slH a b)
      | _, _ => none
    | .Subscript a (.Slice (some lo) (some hi) none _) _ => match cvE p sc n a, cvE p sc n lo, cvE p sc n hi with
      | some a, some b, some c => some (.slB a b c)
      | _, _, _ => none
    | .Subscript a b _ => if plainE b then match cvE p sc n a, cvE p sc n b with
      | some a, some b => some (.ix a b)
      | _, _ => none else none
    | .Dict ks vs _ => match optAll ks with
      | some ks => if ks.length = vs.length && ks.length ≤ 15 then (cvD p sc n ks vs).map .dsp else none
      | none => none
    | .Call (.Name f _) [] [] _ => if p.F.contains f && glbb sc f && !dbg f then some (.call f []) else none
    | .Call (.Name f _) (a :: es) [] _ =>
      if p.F.contains f && glbb sc f && !dbg f then (cvA p sc n (a :: es)).map (.call f) else
      if f = "isinstance" then match es with
        | [.Name t _] => if p.B.contains "isinstance" && glbb sc "isinstance" && p.B.contains t && glbb sc t && noStar a then match tyOf t, cvE p sc n a with
          | some t, some a => some (.isi a t)
          | _, _ => none else none
        | _ => none
      else match rngOf p sc n f a es with
      | some r => r
      | none => match biOf f with
        | some b => if p.B.contains f && glbb sc f then (cvA p sc n (a :: es)).map (.blt b) else none
        | none => none
    | .Call (.Attribute o m apos) [] [] cpos => if plainE o && (apos.endLine == cpos.line) then match meOf m, cvE p sc n o with
      | some m, some o => some (.meth m o [])
      | _, _ => none else none
    | .Call (.Attribute o m apos) (a :: es) [] cpos => if plainE o && (apos.endLine == cpos.line) && es.length ≤ 4 then match meOf m, cvE p sc n o, cvA p sc n (a :: es) with
      | some m, some o, some as => if m = .get && as.length > 2 then none else some (.meth m o as)
      | _, _, _ => none else none
    | .ListComp elt [⟨tg, iter, ifs, 0⟩] scope _ =>
      if plainI iter && blkC p.N sc scope (ownOf p.N scope) then
      match cvI p sc n tg iter, cvT p (fun x => scope.names.lookup x == some .cell) (relS scope sc) tg, cvC p (relS scope sc) n ifs, cvE p (relS scope sc) n elt with
      | some (ik, a, b), some mt, some ifs, some elt => if mt.slots.all fun i => ((ownOf p.N scope).map (·.2)).contains i then some (.lc elt mt ik a b ifs ((ownOf p.N scope).map (·.2))) else none
      | _, _, _, _ => none else none
    | _ => none
/-- list(range(..)), tuple(range(..)) -/
def rngOf (p : CP) (sc : Scope) : Nat → Str → Expr → List Expr → Option (Option ME)
  | 0, _, _, _ => none
  | n + 1, f, a, es => match es, a with
    | [], .Call (.Name r _) [x] [] _ => if r = "range" && !p.F.contains r && (f = "list" || f = "tuple") then some (if p.B.contains "range" && glbb sc "range" && p.B.contains f && glbb sc f && noStar x then
        (cvE p sc n x).map fun x => if f = "list" then .rngL (.c (.int 0)) x else .rngT (.c (.int 0)) x else none) else none
    | [], .Call (.Name r _) [x, y] [] _ => if r = "range" && !p.F.contains r && (f = "list" || f = "tuple") then some (if p.B.contains "range" && glbb sc "range" && p.B.contains f && glbb sc f && noStar x && noStar y then
        match cvE p sc n x, cvE p sc n y with
        | some x, some y => some (if f = "list" then .rngL x y else .rngT x y)
        | _, _ => none else none) else none
    | _, _ => none
def cvD (p : CP) (sc : Scope) : Nat → List Expr → List Expr → Option (List ME)
  | 0, _, _ => none
  | _ + 1, [], [] => some []
  | n + 1, k :: ks, v :: vs => match cvE p sc n k, cvE p sc n v, cvD p sc n ks vs with
    | some k, some v, some r => some (k :: v :: r)
    | _, _, _ => none
  | _ + 1, _, _ => none
def cvA (p : CP) (sc : Scope) : Nat → List Expr → Option (List ME)
  | 0, _ => none
  | _ + 1, [] => some []
  | n + 1, e :: es => if noStar e then match cvE p sc n e, cvA p sc n es with
    | some a, some b => some (a :: b)
    | _, _ => none else none
def cvC (p : CP) (sc : Scope) : Nat → List Expr → Option (List ME)
  | 0, _ => none
  | _ + 1, [] => some []
  | n + 1, [c] => if noIf c then (cvE p sc n c).map ([·]) else none
  | _ + 1, _ => none
def cvI (p : CP) (sc : Scope) : Nat → Expr → Expr → Option (IK × ME × ME)
  | 0, _, _ => none
  | n + 1, tg, e => match e with
    | .Call (.Name f _) [a] [] _ => if f = "range" && !p.F.contains f then (if p.B.contains "range" && glbb sc "range" && noStar a then (cvE p sc n a).map fun a => (.rng1, a, .c .non) else none)
      else (cvE p sc n e).map fun a => (.val, a, .c .non)
    | .Call (.Name f _) [a, b] [] _ => if f = "range" && !p.F.contains f then (if p.B.contains "range" && glbb sc "range" && noStar a && noStar b then match cvE p sc n a, cvE p sc n b with
        | some a, some b => some (.rng2, a, b)
        | _, _ => none else none)
      else (cvE p sc n e).map fun a => (.val, a, .c .non)
    | e => (cvE p sc n e).map fun a => (.val, a, .c .non)
def plainI : Expr → Bool
  | .Set .. => false
  | _ => true
end
/-- where syntax stands -/
structure Stat (X : Cx) (sc : Scope) (fn : Str → Bool) (p : CP) : Prop where
  sc : X.env.scope = sc
  kind : X.env.scope.kind = .function
  N : X.N = p.N
  fn : ∀ x, fn x = true → X.fn x = true
section
variable {X : Cx} {sc : Scope} {fn : Str → Bool} {p : CP} {M : Cm} {k : Nat}
theorem slot_at {N : List Str} {x : Str} {i : Nat} (h : slot N x = some i) : N[i]? = some x := by
  unfold slot at h
  split at h
  · split at h
    · cases h; assumption
    · cases h
  · cases h
theorem Stat.vis (s : Stat X sc fn p) {x : Str} (h : visb sc x = true) : Vis X.env.scope x := by
  rw [s.sc]
  unfold visb at h
  split at h
  · exact .inl (by assumption)
  · exact .inr (.inl (by assumption))
  · exact .inr (.inr (by assumption))
  · cases h
theorem Stat.gl (s : Stat X sc fn p) {x : Str} (h : glbb sc x = true) : Gl X x := by
  show X.env.scope.names.lookup x = _
  rw [s.sc]
  unfold glbb at h
  split at h
  · assumption
  · cases h
theorem dbg_ne {x : Str} (h : dbg x = false) : (x == ("__debug__" : Str)) = false ∧ (x == ("__classdict__" : Str)) = false := by
  unfold dbg at h
  exact Bool.or_eq_false_iff.mp h
theorem star_ok {e : Expr} {es : List Expr} (h : noStar e = true) : starEach (e :: es) X.env = (false, eval e X.env) :: starEach es X.env := by
  cases e <;> first | rfl | (simp [noStar] at h)
theorem asg_ok {e : Expr} {es : List Expr} (h : noStar e = true) : assignEach (e :: es) X.env = (false, assign e X.env) :: assignEach es X.env := by
  cases e <;> first | rfl | (simp [noStar] at h)
theorem cvA_star : ∀ {n : Nat} {es : List Expr} {mes : List ME}, cvA p sc n es = some mes → es.all noStar = true
  | 0, _, _, h => by simp [cvA] at h
  | n + 1, [], _, _ => rfl
  | n + 1, e :: es, _, h => by
    simp only [cvA] at h
    split at h
    · split at h
      · cases h
        simp only [List.all_cons, Bool.and_eq_true]
        exact ⟨by assumption, cvA_star (by assumption)⟩
      · cases h
    · cases h
theorem back_ok {pos : Pos} : ∀ {es : List Expr}, es.all noStar = true → (backTo pos (starEach es X.env)).any (·.1) = false
  | [], _ => rfl
  | e :: es, h => by
    simp only [List.all_cons, Bool.and_eq_true] at h
    rw [star_ok h.1]
    have := back_ok (pos := pos) h.2
    simp only [backTo, List.map_cons, List.any_cons, Bool.false_or] at this ⊢
    exact this
theorem few_ok {pos : Pos} {es : List Expr} (h : es.all noStar = true) (hl : es.length ≤ 20) : ((backTo pos (starEach es X.env)).all (fun x => !x.1) && (backToKw pos (keywordEach [] X.env)).all (fun x => x.1.isSome)
    && decide (es.length + ([] : List Keyword).length + (if ([] : List Keyword).isEmpty then 0 else 1) < 30)) = true := by
  have h1 : (backTo pos (starEach es X.env)).all (fun x => !x.1) = true := by
    have := back_ok (X := X) (pos := pos) h
    rw [List.any_eq_false] at this
    rw [List.all_eq_true]
    intro x hx
    have := this x hx
    simpa using this
  rw [h1]
  simp [backToKw, keywordEach]
  omega
theorem attr_ok {o : Expr} {m : Str} (h : plainE o = true) : attributeBase o m X.env (eval o X.env) = eval o X.env := by
  unfold attributeBase
  split
  · rename_i id _ pos
    have hid : (id != ("super" : Str)) = true := by
      simp only [plainE, Bool.not_eq_true'] at h
      simp [bne, h]
    simp [hid]
  · rfl
theorem plain_ix {b : Expr} (h : plainE b = true) : PlainIx b := by
  intro o i
  cases b <;> first | rfl | (simp [plainE] at h)
theorem folded_ok {e : Expr} (h : plainI e = true) : ∀ x, foldedSetIterable e X.env x = pure x := by
  intro x
  cases e <;> first | rfl | (simp [plainI] at h)
theorem Stat.blk (s : Stat X sc fn p) {st : Shared} {H : Hp} {C : Addr} {cl : List (Str × Addr)} {fp : List Addr} {scope : Scope} {own : List (Str × Nat)} (ok : BlkOk X.N X.env.scope scope own) :
    Stat (X.blk st H scope (compEnvC scope cl C X.env) fp) (relS scope sc) (fun x => scope.names.lookup x == some .cell) p :=
  ⟨by rw [← s.sc]; rfl, ok.kind, s.N, fun x h => h⟩
mutual
theorem cvT_ok (s : Stat X sc fn p) (hc : X.calm = true) (nd : X.N.Nodup) : ∀ {e : Expr} {mt : MT}, cvT p fn sc e = some mt → SG X e mt
  | .Name x pos, mt, h => by
    simp only [cvT] at h
    split at h
    · rename_i ht
      cases q : slot p.N x with
      | none => rw [q] at h; cases h
      | some i =>
        rw [q] at h
        cases h
        have hi : X.N[i]? = some x := by rw [s.N]; exact slot_at q
        unfold tgtb at ht
        split at ht
        · rename_i hl
          have hl' : X.env.scope.names.lookup x = some .local := by rw [s.sc]; exact hl
          exact sg_nm nd hi (.inl hl') (.inr hl')
        · rename_i hl
          have hl' : X.env.scope.names.lookup x = some .cell := by rw [s.sc]; exact hl
          exact sg_nm nd hi (.inr hl') (.inl (s.fn x ht))
        · cases ht
    · cases h
  | .Tuple ts _ _, mt, h => by
    simp only [cvT] at h
    cases q : cvTs p fn sc ts with
    | none => rw [q] at h; cases h
    | some mts => rw [q] at h; cases h; exact sg_tp hc (cvTs_ok s hc nd q)
theorem cvTs_ok (s : Stat X sc fn p) (hc : X.calm = true) (nd : X.N.Nodup) : ∀ {es : List Expr} {mts : List MT}, cvTs p fn sc es = some mts → SGs X es mts
  | [], mts, h => by simp only [cvTs] at h; cases h; exact sgs_nil
  | t :: ts, mts, h => by
    simp only [cvTs] at h
    split at h
    · split at h
      · cases h
        exact sgs_cons (asg_ok (by assumption)) (cvT_ok s hc nd (by assumption)) (cvTs_ok s hc nd (by assumption))
      · cases h
    · cases h
end
/-! ### expressions -/
def Snds (X : Cx) (M : Cm) (e : Expr) (me : ME) : Prop := SE X M e me ∧ (noIf e = true → ST X M e me) ∧ ∀ op es pos, e = .BoolOp op es pos → SW X M e me
theorem snd_plain {e : Expr} {me : ME} (h : SE X M e me) (hb : ∀ op es pos, e ≠ .BoolOp op es pos) (he : noIf e = true → ∀ whole, isTrue e X.env whole = (do let v ← whole; standAt e.pos; holding [v] (truthy v))) : Snds X M e me :=
  ⟨h, fun q => st_plain h (he q), fun op es pos q => absurd q (hb op es pos)⟩
theorem and_b {a b : Bool} (h : (a && b) = true) : a = true ∧ b = true := by simpa using h
mutual
theorem cvE_ok : ∀ (n : Nat) {X : Cx} {sc : Scope} {fn : Str → Bool} (c : EC X M p.F p.B k) (s : Stat X sc fn p) (e : Expr) (me : ME), cvE p sc n e = some me → Snds X M e me
  | 0, _, _, _, _, _, _, _, h => by simp [cvE] at h
  | n + 1, X, sc, fn, c, s, e, me, h => by
    have hu := c.un
    have ih := fun e me h => (cvE_ok n c s e me h).1
    have iT := fun e me h (q : noIf e = true) => (cvE_ok n c s e me h).2.1 q
    unfold cvE at h
    split at h
    · cases h; exact snd_plain (se_c pe_int fun _ _ => .int _) (by intros; nofun) fun _ _ => rfl
    · cases h; exact snd_plain (se_c pe_bl fun _ _ => .bl _) (by intros; nofun) fun _ _ => rfl
    · cases h; exact snd_plain (se_c pe_non fun _ _ => .non) (by intros; nofun) fun _ _ => rfl
    · cases h; exact snd_plain (se_c pe_str fun _ _ => .str _) (by intros; nofun) fun _ _ => rfl
    · -- a name
      rename_i x pos
      split at h
      · cases h
      · rename_i hd
        have hd := dbg_ne (Bool.eq_false_iff.mpr hd)
        split at h
        · cases q : slot p.N x with
          | none => rw [q] at h; cases h
          | some i =>
            rw [q] at h
            cases h
            exact snd_plain (se_var (by rw [s.N]; exact slot_at q) (s.vis (by assumption)) hd.1 hd.2) (by intros; nofun) fun _ _ => rfl
        · split at h
          · cases h
            rename_i hg
            obtain ⟨hg, _⟩ := and_b hg
            refine snd_plain ?_ (by intros; nofun) fun _ _ => rfl
            intro σ H mσ mh ρ R S mv mh' e Q P
            have e0 := e
            simp only [evE] at e
            cases z : M.gl x with
            | none => rw [z] at e; cases e
            | some v =>
              obtain ⟨u, w, h1, h2, h3⟩ := c.gl x v z
              exact se_glb (s.gl hg) h1 h2 hd.1 (fun v' z' ρ H => by rw [z] at z'; cases z'; exact h3 ρ H) σ H mσ mh ρ R S mv mh' e0 Q P
          · cases h
    · split at h
      · cases h; exact snd_plain (se_bin (ih _ _ (by assumption)) (ih _ _ (by assumption))) (by intros; nofun) fun _ _ => rfl
      · cases h
    · rename_i a pos
      cases q : cvE p sc n a with
      | none => rw [q] at h; cases h
      | some ma => rw [q] at h; cases h; exact snd_plain (se_neg (ih _ _ q)) (by intros; nofun) fun _ _ => rfl
    · rename_i a pos
      split at h
      · cases q : cvE p sc n a with
        | none => rw [q] at h; cases h
        | some ma => rw [q] at h; cases h; exact ⟨se_not (ih _ _ q), fun _ => st_not (iT _ _ q (by assumption)), fun _ _ _ q => nomatch q⟩
      · cases h
    · split at h
      · cases h
      · rename_i hb
        split at h
        · cases h
          exact ⟨se_cmp (by omega) (Bool.eq_false_iff.mpr hb) (ih _ _ (by assumption)) (ih _ _ (by assumption)), fun _ => st_cmp (by omega) (Bool.eq_false_iff.mpr hb) (ih _ _ (by assumption)) (ih _ _ (by assumption)), fun _ _ _ q => nomatch q⟩
        · cases h
    · split at h
      · cases h
      · rename_i hb
        split at h
        · cases h
          exact ⟨se_chain (by omega) (Bool.eq_false_iff.mpr hb) (ih _ _ (by assumption)) (ih _ _ (by assumption)) (ih _ _ (by assumption)),
            fun _ => st_chain (by omega) (Bool.eq_false_iff.mpr hb) (ih _ _ (by assumption)) (ih _ _ (by assumption)) (ih _ _ (by assumption)), fun _ _ _ q => nomatch q⟩
        · cases h
    · split at h
      · exact ⟨se_one (ih _ _ h), fun _ => sw_st (sw_one (iT _ _ h (by assumption))), fun _ _ _ _ => sw_one (iT _ _ h (by assumption))⟩
      · cases h
    · split at h
      · split at h
        · cases h
          rename_i a b r pos hni _ _ ma mb h1 h2
          have hb := cvE_ok n c s _ _ h2
          have w := sw_and (iT _ _ h1 hni) (hb.2.2 _ _ _ rfl)
          exact ⟨se_and (ih _ _ h1) hb.1, fun _ => sw_st w, fun _ _ _ _ => w⟩
        · cases h
      · cases h
    · split at h
      · split at h
        · cases h
          rename_i a b r pos hni _ _ ma mb h1 h2
          have hb := cvE_ok n c s _ _ h2
          have w := sw_or (iT _ _ h1 hni) (hb.2.2 _ _ _ rfl)
          exact ⟨se_or (ih _ _ h1) hb.1, fun _ => sw_st w, fun _ _ _ _ => w⟩
        · cases h
      · cases h
    · split at h
      · split at h
        · cases h
          exact ⟨se_ife (iT _ _ (by assumption) (by assumption)) (ih _ _ (by assumption)) (ih _ _ (by assumption)), fun q => by simp [noIf] at q, fun _ _ _ q => nomatch q⟩
        · cases h
      · cases h
    · split at h
      · split at h
        · cases h
          exact snd_plain (se_tup (Nat.le_trans (by assumption) (by decide)) (cvA_ok n c s _ _ (by assumption))) (by intros; nofun) fun _ _ => rfl
        · cases h
      · cases h
    · split at h
      · split at h
        · cases h
          exact snd_plain (se_lst (Nat.le_trans (by assumption) (by decide)) (cvA_ok n c s _ _ (by assumption))) (by intros; nofun) fun _ _ => rfl
        · cases h
      · cases h
    · rename_i a _ _
      cases q : cvE p sc n a with
      | none => rw [q] at h; cases h
      | some ma => rw [q] at h; cases h; exact snd_plain (se_sl (ih _ _ q)) (by intros; nofun) fun _ _ => rfl
    · rename_i a _ _ _ _ _
      cases q : cvE p sc n a with
      | none => rw [q] at h; cases h
      | some ma => rw [q] at h; cases h; exact snd_plain (se_rev (ih _ _ q)) (by intros; nofun) fun _ _ => rfl
    · split at h
      · cases h; exact snd_plain (se_slL (ih _ _ (by assumption)) (ih _ _ (by assumption))) (by intros; nofun) fun _ _ => rfl
      · cases h
    · split at h
      · cases h; exact snd_plain (se_slH (ih _ _ (by assumption)) (ih _ _ (by assumption))) (by intros; nofun) fun _ _ => rfl
      · cases h
    · split at h
      · cases h; exact snd_plain (se_slB (ih _ _ (by assumption)) (ih _ _ (by assumption)) (ih _ _ (by assumption))) (by intros; nofun) fun _ _ => rfl
      · cases h
    · split at h
      · rename_i hp
        split at h
        · cases h
          exact snd_plain (se_ix (by omega) (plain_ix hp) (plain_ix hp) (ih _ _ (by assumption)) (ih _ _ (by assumption))) (by intros; nofun) fun _ _ => rfl
        · cases h
      · cases h
    · split at h
      · rename_i ks0 vs pos _ ks hks
        split at h
        · rename_i hq
          obtain ⟨h1, h2⟩ := and_b hq
          cases q : cvD p sc n ks vs with
          | none => rw [q] at h; cases h
          | some ms =>
            rw [q] at h
            cases h
            rw [optAll_map hks]
            exact snd_plain (se_dsp (cvD_ok n c s _ _ _ q) (by simpa using h2)) (by intros; nofun) fun _ _ => rfl
        · cases h
      · cases h
    · split at h
      · cases h
        rename_i hq
        obtain ⟨hq, h3⟩ := and_b hq
        obtain ⟨h1, h2⟩ := and_b hq
        have hd := dbg_ne (by simpa using h3)
        exact snd_plain (se_call0 c (by simpa using h1) (s.gl h2) hd.1) (by intros; nofun) fun _ _ => rfl
      · cases h
    · -- a call by name
      rename_i f pf a es pos
      split at h
      · rename_i hq
        obtain ⟨hq, h3⟩ := and_b hq
        obtain ⟨h1, h2⟩ := and_b hq
        have hd := dbg_ne (by simpa using h3)
        cases q : cvA p sc n (a :: es) with
        | none => rw [q] at h; cases h
        | some mes =>
          rw [q] at h
          cases h
          have st := cvA_star q
          simp only [List.all_cons, Bool.and_eq_true] at st
          exact snd_plain (se_call c (by simpa using h1) (s.gl h2) hd.1 (star_ok st.1) (back_ok st.2) (cvA_ok n c s _ _ q)) (by intros; nofun) fun _ _ => rfl
      · split at h
        · rename_i hf
          subst hf
          split at h
          · split at h
            · rename_i t pt hq
              obtain ⟨hq, h5⟩ := and_b hq
              obtain ⟨hq, h4⟩ := and_b hq
              obtain ⟨hq, h3⟩ := and_b hq
              obtain ⟨h1, h2⟩ := and_b hq
              split at h
              · cases h
                rename_i ty ma ht hma
                have := tyOf_nm ht
                subst this
                exact snd_plain (se_isi (s.gl h2) (c.blt _ (by simpa using h1)) (s.gl h4) (c.blt _ (by simpa using h3)) (star_ok h5) (ih _ _ hma)) (by intros; nofun) fun _ _ => rfl
              · cases h
            · cases h
          · cases h
        · split at h
          · rename_i r hr
            subst h
            exact rngOf_ok n c s _ _ _ _ hr
          · split at h
            · rename_i b hb
              split at h
              · rename_i hq
                obtain ⟨h1, h2⟩ := and_b hq
                have := biOf_nm hb
                subst this
                cases q : cvA p sc n (a :: es) with
                | none => rw [q] at h; cases h
                | some mes =>
                  rw [q] at h
                  cases h
                  have st := cvA_star q
                  simp only [List.all_cons, Bool.and_eq_true] at st
                  exact snd_plain (se_blt c.calm c.gd (by omega) (s.gl h2) (c.blt _ (by simpa using h1)) (star_ok st.1) (back_ok st.2) (cvA_ok n c s _ _ q)) (by intros; nofun) fun _ _ => rfl
              · cases h
            · cases h
    · split at h
      · rename_i hq
        obtain ⟨h1, h2⟩ := and_b hq
        split at h
        · cases h
          rename_i m mo hm hmo
          have := meOf_nm hm
          subst this
          exact snd_plain (se_meth0 c (attr_ok h1) h2 (ih _ _ hmo)) (by intros; nofun) fun _ _ => rfl
        · cases h
      · cases h
    · -- o.m(a, ..)
      rename_i o m apos a es cpos
      split at h
      · rename_i hq
        obtain ⟨hq, h3⟩ := and_b hq
        obtain ⟨h1, h2⟩ := and_b hq
        split at h
        · rename_i m2 mo mas hm hmo hmas
          split at h
          · cases h
          · rename_i hlen
            cases h
            have := meOf_nm hm
            subst this
            have st := cvA_star hmas
            have st2 := st
            simp only [List.all_cons, Bool.and_eq_true] at st2
            refine snd_plain (se_meth c ⟨attr_ok h1, few_ok st (by simp at h3 ⊢; omega), h2⟩ (ih _ _ hmo) (star_ok st2.1) (back_ok st2.2) (cvA_ok n c s _ _ hmas) fun hg => ?_) (by intros; nofun) fun _ _ => rfl
            subst hg
            cases n with
            | zero => simp [cvA] at hmas
            | succ n =>
              have bk : ∀ {e : Expr} {es : List Expr}, noStar e = true → backTo cpos (starEach (e :: es) X.env) = (false, eval e X.env) :: backTo cpos (starEach es X.env) := fun h => by rw [star_ok h]; rfl
              have ih2 := fun e me h => (cvE_ok n c s e me h).1
              simp only [cvA] at hmas
              split at hmas
              · split at hmas
                · cases hmas
                  rename_i ma mr ha hr
                  cases n with
                  | zero => simp [cvA] at hr
                  | succ n =>
                    cases es with
                    | nil =>
                      simp only [cvA] at hr
                      cases hr
                      exact .inl ⟨ma, rfl, rfl, ih2 _ _ ha, bk st2.1⟩
                    | cons b es =>
                      simp only [cvA] at hr
                      split at hr
                      · split at hr
                        · cases hr
                          rename_i mb mr2 hb hr2
                          have h0 : mr2 = [] := by
                            simp at hlen
                            cases mr2 with
                            | nil => rfl
                            | cons _ _ => simp at hlen
                          subst h0
                          have h00 : es = [] := by
                            cases n with
                            | zero => simp [cvA] at hr2
                            | succ n =>
                              cases es with
                              | nil => rfl
                              | cons _ _ =>
                                simp only [cvA] at hr2
                                split at hr2
                                · split at hr2 <;> cases hr2
                                · cases hr2
                          subst h00
                          exact .inr ⟨b, ma, mb, rfl, rfl, ih2 _ _ ha, (cvE_ok n c s _ _ hb).1, by rw [bk st2.1, bk (by assumption)]; rfl⟩
                        · cases hr
                      · cases hr
                · cases hmas
              · cases hmas
        · cases h
      · cases h
    · -- a comprehension
      split at h
      · rename_i hq
        obtain ⟨h1, h2⟩ := and_b hq
        split at h
        · split at h
          · cases h
            rename_i elt tg iter ifs scope pos _ _ _ _ ik ma mb mt mifs melt hi ht hc he hsl
            have ok : BlkOk X.N X.env.scope scope (ownOf p.N scope) := by
              rw [s.N, s.sc]
              exact blkOk_by h2
            refine snd_plain (se_lc c.calm c.nd ok (cvI_ok n c s _ _ _ _ _ hi) (fun i hi => ?_) (fun _ _ _ _ _ => cvT_ok (s.blk ok) c.calm c.nd ht) (fun st H C cl fp => cvC_ok n (c.blk _ _ _ _ _) (s.blk ok) _ _ hc)
              (fun st H C cl fp => (cvE_ok n (c.blk _ _ _ _ _) (s.blk ok) _ _ he).1) (folded_ok h1)) (by intros; nofun) fun _ _ => rfl
            have := List.all_eq_true.mp hsl i hi
            simpa using this
          · cases h
        · cases h
      · cases h
    · cases h
theorem cvD_ok : ∀ (n : Nat) {X : Cx} {sc : Scope} {fn : Str → Bool} (c : EC X M p.F p.B k) (s : Stat X sc fn p) (ks vs : List Expr) (ms : List ME), cvD p sc n ks vs = some ms → SP2 X M ks vs ms
  | 0, _, _, _, _, _, _, _, _, h => by simp [cvD] at h
  | n + 1, X, sc, fn, c, s, [], [], _, h => by simp only [cvD] at h; cases h; exact .nil
  | n + 1, X, sc, fn, c, s, [], _ :: _, _, h => by simp [cvD] at h
  | n + 1, X, sc, fn, c, s, _ :: _, [], _, h => by simp [cvD] at h
  | n + 1, X, sc, fn, c, s, k :: ks, v :: vs, _, h => by
    simp only [cvD] at h
    split at h
    · cases h
      exact .cons (cvE_ok n c s _ _ (by assumption)).1 (cvE_ok n c s _ _ (by assumption)).1 (cvD_ok n c s _ _ _ (by assumption))
    · cases h
theorem rngOf_ok : ∀ (n : Nat) {X : Cx} {sc : Scope} {fn : Str → Bool} (c : EC X M p.F p.B k) (s : Stat X sc fn p) (f : Str) (a : Expr) (es : List Expr) (me : ME) {pf pos : Pos}, rngOf p sc n f a es = some (some me) → Snds X M (.Call (.Name f pf) (a :: es) [] pos) me
  | 0, _, _, _, _, _, _, _, _, _, _, _, h => by simp [rngOf] at h
  | n + 1, X, sc, fn, c, s, f, a, es, me, pf, pos, h => by
    have ih := fun e me h => (cvE_ok n c s e me h).1
    unfold rngOf at h
    split at h
    · split at h
      · rename_i r pr x p2 hq
        obtain ⟨hq, hf⟩ := and_b hq
        obtain ⟨hr, _⟩ := and_b hq
        have hr : r = "range" := by simpa using hr
        subst hr
        rw [Option.some.injEq] at h
        split at h
        · rename_i hq2
          obtain ⟨hq2, h5⟩ := and_b hq2
          obtain ⟨hq2, h4⟩ := and_b hq2
          obtain ⟨hq2, h3⟩ := and_b hq2
          obtain ⟨h1, h2⟩ := and_b hq2
          cases q : cvE p sc n x with
          | none => rw [q] at h; cases h
          | some mx =>
            rw [q] at h
            obtain ⟨te, g1, g2⟩ := rg1_ok (p2 := p2) (p := pr) (ih _ _ q) (s.gl h2) (c.blt _ (by simpa using h1)) (star_ok h5)
            simp only [Option.map_some, Option.some.injEq] at h
            rw [Bool.or_eq_true] at hf
            by_cases hl : f = "list"
            · subst hl
              rw [if_pos rfl] at h
              subst h
              exact snd_plain (se_rngL c.calm (s.gl h4) (c.blt _ (by simpa using h3)) g1 (star_ok rfl) g2) (by intros; nofun) fun _ _ => rfl
            · rw [if_neg hl] at h
              subst h
              have hf : f = "tuple" := by
                rcases hf with hf | hf
                · exact absurd (by simpa using hf) hl
                · simpa using hf
              subst hf
              exact snd_plain (se_rngT c.calm (s.gl h4) (c.blt _ (by simpa using h3)) g1 (star_ok rfl) g2) (by intros; nofun) fun _ _ => rfl
        · cases h
      · cases h
    · split at h
      · rename_i r pr x y p2 hq
        obtain ⟨hq, hf⟩ := and_b hq
        obtain ⟨hr, _⟩ := and_b hq
        have hr : r = "range" := by simpa using hr
        subst hr
        rw [Option.some.injEq] at h
        split at h
        · rename_i hq2
          obtain ⟨hq2, h6⟩ := and_b hq2
          obtain ⟨hq2, h5⟩ := and_b hq2
          obtain ⟨hq2, h4⟩ := and_b hq2
          obtain ⟨hq2, h3⟩ := and_b hq2
          obtain ⟨h1, h2⟩ := and_b hq2
          split at h
          · rename_i mx my qx qy
            obtain ⟨te, g1, g2⟩ := rg2_ok (p2 := p2) (p := pr) (ih _ _ qx) (ih _ _ qy) (s.gl h2) (c.blt _ (by simpa using h1)) (star_ok h5) (star_ok h6)
            rw [Option.some.injEq] at h
            rw [Bool.or_eq_true] at hf
            by_cases hl : f = "list"
            · subst hl
              rw [if_pos rfl] at h
              subst h
              exact snd_plain (se_rngL c.calm (s.gl h4) (c.blt _ (by simpa using h3)) g1 (star_ok rfl) g2) (by intros; nofun) fun _ _ => rfl
            · rw [if_neg hl] at h
              subst h
              have hf : f = "tuple" := by
                rcases hf with hf | hf
                · exact absurd (by simpa using hf) hl
                · simpa using hf
              subst hf
              exact snd_plain (se_rngT c.calm (s.gl h4) (c.blt _ (by simpa using h3)) g1 (star_ok rfl) g2) (by intros; nofun) fun _ _ => rfl
          · cases h
        · cases h
      · cases h
    · cases h
theorem cvA_ok : ∀ (n : Nat) {X : Cx} {sc : Scope} {fn : Str → Bool} (c : EC X M p.F p.B k) (s : Stat X sc fn p) (es : List Expr) (mes : List ME), cvA p sc n es = some mes → SA X M es mes
  | 0, _, _, _, _, _, _, _, h => by simp [cvA] at h
  | n + 1, X, sc, fn, c, s, [], _, h => by simp only [cvA] at h; cases h; exact sa_nil
  | n + 1, X, sc, fn, c, s, e :: es, _, h => by
    simp only [cvA] at h
    split at h
    · split at h
      · cases h
        exact sa_cons (star_ok (by assumption)) (cvE_ok n c s _ _ (by assumption)).1 (cvA_ok n c s _ _ (by assumption))
      · cases h
    · cases h
theorem cvC_ok : ∀ (n : Nat) {X : Cx} {sc : Scope} {fn : Str → Bool} (c : EC X M p.F p.B k) (s : Stat X sc fn p) (es : List Expr) (mes : List ME), cvC p sc n es = some mes → STs X M es mes
  | 0, _, _, _, _, _, _, _, h => by simp [cvC] at h
  | n + 1, X, sc, fn, c, s, [], _, h => by simp only [cvC] at h; cases h; exact .inl ⟨rfl, rfl⟩
  | n + 1, X, sc, fn, c, s, [e], _, h => by
    simp only [cvC] at h
    split at h
    · cases q : cvE p sc n e with
      | none => rw [q] at h; cases h
      | some me => rw [q] at h; cases h; exact .inr ⟨e, me, rfl, rfl, (cvE_ok n c s _ _ q).2.1 (by assumption)⟩
    · cases h
  | n + 1, _, _, _, _, _, _ :: _ :: _, _, h => by simp [cvC] at h
theorem cvI_ok : ∀ (n : Nat) {X : Cx} {sc : Scope} {fn : Str → Bool} (c : EC X M p.F p.B k) (s : Stat X sc fn p) (tg e : Expr) (ik : IK) (ma mb : ME), cvI p sc n tg e = some (ik, ma, mb) → SI X M tg e ik ma mb
  | 0, _, _, _, _, _, _, _, _, _, _, h => by simp [cvI] at h
  | n + 1, X, sc, fn, c, s, tg, e, ik, ma, mb, h => by
    have ih := fun e me h => (cvE_ok n c s e me h).1
    have fin : ∀ e, (cvE p sc n e).map (fun a => (IK.val, a, ME.c .non)) = some (ik, ma, mb) → SI X M tg e ik ma mb := fun e h => by
      cases q : cvE p sc n e with
      | none => rw [q] at h; cases h
      | some me => rw [q] at h; cases h; exact si_val (ih _ _ q)
    unfold cvI at h
    split at h
    · split at h
      · rename_i f pf a pos hf
        obtain ⟨hf, _⟩ := and_b hf
        have hf : f = "range" := by simpa using hf
        subst hf
        split at h
        · rename_i hq
          obtain ⟨hq, h3⟩ := and_b hq
          obtain ⟨h1, h2⟩ := and_b hq
          cases q : cvE p sc n a with
          | none => rw [q] at h; cases h
          | some me => rw [q] at h; cases h; exact si_rng1 (s.gl h2) (c.blt _ (by simpa using h1)) (star_ok h3) (ih _ _ q)
        · cases h
      · exact fin _ h
    · split at h
      · rename_i f pf a b pos hf
        obtain ⟨hf, _⟩ := and_b hf
        have hf : f = "range" := by simpa using hf
        subst hf
        split at h
        · rename_i hq
          obtain ⟨hq, h4⟩ := and_b hq
          obtain ⟨hq, h3⟩ := and_b hq
          obtain ⟨h1, h2⟩ := and_b hq
          split at h
          · cases h
            exact si_rng2 (s.gl h2) (c.blt _ (by simpa using h1)) (star_ok h3) (star_ok h4) (ih _ _ (by assumption)) (ih _ _ (by assumption))
          · cases h
        · cases h
      · exact fin _ h
    · exact fin _ h
end
end
end Mn

set_option maxHeartbeats 4000000
/-! Conv2: statements, defs, the whole program. -/
namespace Mn
open PySem PySem.Spec PyProof.Rows L2

def noComp : Expr → Bool
  | .ListComp .. => false | .SetComp .. => false | .DictComp .. => false
  | _ => true
def isTup : Expr → Bool
  | .Tuple .. => true | .List .. => true
  | _ => false
def swapB (sc : Scope) (y : Str) (py : Pos) (scope : Scope) (lpos : Pos) : Bool :=
  sc.names.lookup y == some .local && py.line == lpos.line && !(scope.names.any fun (n, k) => n == y && (k == .local || k == .cell))
def starB : Expr → Bool
  | .Starred .. => true
  | _ => false
mutual
def cvS (p : CP) (fn : Str → Bool) (sc : Scope) : Nat → Stmt → Option MS
  | 0, _ => none
  | n + 1, st => match st with
    | .Expr (.Constant (.str _) _ _) _ => some .pass
    | .Expr e _ => if noComp e then (cvE p sc n e).map .expr else none
    | .Assign [.Subscript o i _] e _ => if noComp e && plainE i then match cvE p sc n o, cvE p sc n i, cvE p sc n e with
      | some o, some i, some e => some (.asgSub o i e)
      | _, _, _ => none else none
    | .Assign [.Name y py] (.ListComp elt [⟨tg, iter, ifs, 0⟩] scope lpos) pos => match slot p.N y, cvE p sc n (.ListComp elt [⟨tg, iter, ifs, 0⟩] scope lpos) with
      | some j, some e => if tgtb fn sc y then some (.asg (.nm j) e) else none
      | _, _ => none
    | .Assign [.Tuple [.Name x px, .Name y py] _ _] (.Tuple [a, b] _ _) _ =>
      if sc.names.lookup x == some .local && sc.names.lookup y == some .local && py.line == px.line && !(x == y) && noStar a && noStar b && !([a, b].all (foldedForSure 8)) && !([a, b].all (constantsAlone 8)) then
      match slot p.N x, slot p.N y, cvE p sc n a, cvE p sc n b with
      | some i, some j, some a, some b => if i = j then none else some (.asg (.tp [.nm i, .nm j]) (.tup [a, b]))
      | _, _, _, _ => none else none
    | .Assign [tg] e _ => if noComp e && !(isTup tg && isTup e) then match cvT p fn sc tg, cvE p sc n e with
      | some t, some e => some (.asg t e)
      | _, _ => none else none
    | .Return (some e) _ => (cvE p sc n e).map .ret
    | .Return none _ => some .retN
    | .If c a b _ => if noIf c then match cvE p sc n c, cvSs p fn sc n a, cvSs p fn sc n b with
      | some c, some a, some b => some (.ite c a b)
      | _, _, _ => none else none
    | .For tg iter body [] _ => if plainI iter then match cvI p sc n tg iter, cvT p fn sc tg, cvSs p fn sc n body with
      | some (ik, a, b), some t, some body => some (.for_ t ik a b body)
      | _, _, _ => none else none
    | .While c body [] _ => if noIf c then match cvE p sc n c, cvSs p fn sc n body with
      | some c, some body => some (.whl c body)
      | _, _ => none else none
    | .Pass _ => some .pass
    | .Break _ => some .brk
    | .Continue _ => some .cont
    | _ => none
def cvSs (p : CP) (fn : Str → Bool) (sc : Scope) : Nat → List Stmt → Option (List MS)
  | 0, _ => none
  | _ + 1, [] => some []
  | n + 1, s :: ss => match cvS p fn sc n s, cvSs p fn sc n ss with
    | some a, some b => some (a :: b)
    | _, _ => none
end
section
variable {p : CP} {M : Cm} {k : Nat}
theorem swaps_no {X : Cx} {e : Expr} {t : Option Expr} {l : Nat} (h : noComp e = true) : swapsWith e t l X.env = pure false := by
  cases e <;> first | rfl | (simp [noComp] at h)
theorem sole_no {X : Cx} {e t : Expr} {l : Nat} (h : noComp e = true) : swapsWithSole [t] e l X.env = pure false := by
  have : swapsWithSole [t] e l X.env = swapsWith e (some t) l X.env := by rfl
  rw [this, swaps_no h]
theorem asg_sub {X : Cx} {o i : Expr} {p2 : Pos} (h : plainE i = true) (v : Value) : assign (.Subscript o i p2) X.env v = (do
    let ov ← holding [v] (eval o X.env)
    let iv ← holding [v, ov] (eval i X.env)
    standAt p2
    holding [v, ov, iv] (setItem ov iv v)
    release [v, ov, iv] []) := by
  cases i <;> first | rfl | (simp [plainE] at h)
theorem stores_no {X : Cx} {tg e : Expr} (h : (isTup tg && isTup e) = false) : swappedStores [tg] e X.env = pure none := by
  cases tg <;> first | rfl | (cases e <;> first | rfl | (simp [isTup] at h))
theorem stores_pair {X : Cx} {sc : Scope} {fn : Str → Bool} (s : Stat X sc fn p) {x y : Str} {px py pt pt2 : Pos} {kt k2 : Nat} {a b : Expr} (hx : sc.names.lookup x = some .local) (hy : sc.names.lookup y = some .local) (hl : (py.line == px.line) = true) (hne : (x == y) = false)
    (ha : noStar a = true) (hb : noStar b = true) (h1 : [a, b].all (foldedForSure 8) = false) (h2 : [a, b].all (constantsAlone 8) = false) :
    swappedStores [.Tuple [.Name x px, .Name y py] kt pt] (.Tuple [a, b] k2 pt2) X.env = pure (some [x, y]) := by
  have kx : X.env.kindOf x = some .local := by show X.env.scope.names.lookup x = _; rw [s.sc]; exact hx
  have ky : X.env.kindOf y = some .local := by show X.env.scope.names.lookup y = _; rw [s.sc]; exact hy
  have hbk : X.env.blockKind = .function := by unfold Env.blockKind; rw [s.kind]; rfl
  have hd : [x, y].eraseDups = [x, y] := by
    have : (y == x) = false := by rw [Bool.eq_false_iff] at hne ⊢; intro z; exact hne (by simpa using (by simpa using z : y = x).symm)
    simp [List.eraseDups_cons, this]
  unfold swappedStores
  have e1 : ((some NameKind.local : Option NameKind) == some NameKind.local) = true := rfl
  have e2 : (ScopeKind.function != ScopeKind.function) = false := rfl
  simp only [hbk, h1, h2, List.length_cons, List.length_nil, Expr.pos, List.head?_cons, Option.map_some, Option.getD_some, List.filterMap_cons, List.filterMap_nil, kx, ky, hl, e1, e2, beq_self_eq_true, Bool.and_self, if_true, hd, List.any_cons, List.any_nil]
  split
  · rename_i z
    exact absurd z (by decide)
  · split
    · exact absurd ha (by intro z; cases z)
    · split
      · exact absurd hb (by intro z; cases z)
      · rfl
mutual
theorem cvS_ok : ∀ (n : Nat) {X : Cx} {sc : Scope} {fn : Str → Bool} (c : EC X M p.F p.B k) (s : Stat X sc fn p) (hp : PassesOwn (model X.prog X.w) X.A X.env X.xe) (st : Stmt) (ms : MS), cvS p fn sc n st = some ms → SS X M st ms
  | 0, _, _, _, _, _, _, _, _, h => by simp [cvS] at h
  | n + 1, X, sc, fn, c, s, hp, st, ms, h => by
    have ih := fun e me h => (cvE_ok n c s e me h).1
    have iT := fun e me h (q : noIf e = true) => (cvE_ok n c s e me h).2.1 q
    have hu := c.un
    unfold cvS at h
    split at h
    · cases h; exact ss_doc
    · split at h
      · rename_i e pos _ hn
        cases q : cvE p sc n e with
        | none => rw [q] at h; cases h
        | some me => rw [q] at h; cases h; exact ss_expr (swaps_no hn) (ih _ _ q)
      · cases h
    · split at h
      · rename_i hq
        obtain ⟨h1, h2⟩ := and_b hq
        split at h
        · cases h
          exact ss_asgSub (by omega) (sole_no h1) (stores_no rfl) rfl (fun ht => pg_sub pe_tS pe_tS ht (asg_sub h2)) (ih _ _ (by assumption)) (ih _ _ (by assumption)) (ih _ _ (by assumption))
        · cases h
      · cases h
    · -- name = [..]
      rename_i y py elt tg iter ifs scope lpos pos
      split at h
      · rename_i j me hj he
        split at h
        · cases h
          rename_i ht
          have he0 := he
          have hcv : cvT p fn sc (.Name y py) = some (.nm j) := by simp only [cvT, ht, hj]; rfl
          have hkk : X.env.kindOf y = sc.names.lookup y := by show X.env.scope.names.lookup y = _; rw [s.sc]
          have hsw : swapsWith (.ListComp elt [⟨tg, iter, ifs, 0⟩] scope lpos) (some (.Name y py)) pos.line X.env = pure (swapB sc y py scope lpos) := by
            have hbk : X.env.blockKind = .function := by unfold Env.blockKind; rw [s.kind]; rfl
            unfold swapsWith swapB
            simp only [hbk, hkk, Expr.pos]
            rfl
          cases hB : swapB sc y py scope lpos with
          | false =>
            have z : swapsWithSole [.Name y py] (.ListComp elt [⟨tg, iter, ifs, 0⟩] scope lpos) pos.line X.env = swapsWith (.ListComp elt [⟨tg, iter, ifs, 0⟩] scope lpos) (some (.Name y py)) pos.line X.env := by rfl
            exact ss_asg (by rw [z, hsw, hB]) (stores_no rfl) rfl (ih _ _ he) (cvT_ok s c.calm c.nd hcv)
          | true =>
            have hl : sc.names.lookup y = some .local := by
              unfold swapB at hB
              simp only [Bool.and_eq_true] at hB
              simpa using hB.1.1
            cases n with
            | zero => simp [cvE] at he
            | succ n =>
              simp only [cvE] at he
              split at he
              · rename_i hq
                obtain ⟨h1, h2⟩ := and_b hq
                split at he
                · split at he
                  · cases he
                    rename_i _ _ _ _ ik ma mb mt mifs melt hi ht2 hc he2 hsl
                    have ok : BlkOk X.N X.env.scope scope (ownOf p.N scope) := by
                      rw [s.N, s.sc]
                      exact blkOk_by h2
                    refine ss_asgLc c.calm c.nd (by rw [s.N]; exact slot_at hj) (by rw [s.sc]; exact hl) (by rw [hsw, hB]) ok (cvI_ok n c s _ _ _ _ _ hi) (fun i hi => ?_) (fun _ _ _ _ _ => cvT_ok (s.blk ok) c.calm c.nd ht2)
                      (fun st H C cl fp => cvC_ok n (c.blk _ _ _ _ _) (s.blk ok) _ _ hc) (fun st H C cl fp => (cvE_ok n (c.blk _ _ _ _ _) (s.blk ok) _ _ he2).1) (folded_ok h1)
                    have := List.all_eq_true.mp hsl i hi
                    simpa using this
                  · cases he
                · cases he
              · cases he
        · cases h
      · cases h
    · -- x, y = a, b
      rename_i x px y py _ _ a b _ _ _
      split at h
      · rename_i hq
        obtain ⟨hq, h8⟩ := and_b hq
        obtain ⟨hq, h7⟩ := and_b hq
        obtain ⟨hq, h6⟩ := and_b hq
        obtain ⟨hq, h5⟩ := and_b hq
        obtain ⟨hq, h4⟩ := and_b hq
        obtain ⟨hq, h3⟩ := and_b hq
        obtain ⟨h1, h2⟩ := and_b hq
        have h1 : sc.names.lookup x = some .local := by simpa using h1
        have h2 : sc.names.lookup y = some .local := by simpa using h2
        split at h
        · split at h
          · cases h
          · rename_i i j ma mb hi hj ha hb hij
            cases h
            intro σ H mσ mh ρ R S fl mh' e D P
            simp only [evS, evE] at e
            obtain ⟨vt, m1, e1, e⟩ := bind_ok e
            obtain ⟨vs, m2, e2, e1⟩ := bind_ok e1
            cases e1
            obtain ⟨e3, rfl⟩ := ofO_ok e
            refine ⟨_, ps_par c.calm c.nd (by rw [s.N]; exact slot_at hi) (by rw [s.N]; exact slot_at hj) hij (by rw [s.sc]; exact h1) (by rw [s.sc]; exact h2) pa_tA
              (stores_pair s h1 h2 h3 (by simpa using h4) h5 h6 (Bool.not_eq_true' _ |>.mp h7) (Bool.not_eq_true' _ |>.mp h8)) rfl, ?_⟩
            refine sa_cons (star_ok h5) (ih _ _ ha) (sa_cons (star_ok h6) (ih _ _ hb) sa_nil) σ H mσ mh ρ R S vs _ e2 _ fun ws H1 ρ1 R1 r1 S1 => ?_
            cases vs with
            | nil => simp [evEs_len e2, asgT, asgTs] at e3
            | cons v1 vs =>
              cases vs with
              | nil => simp [asgT] at e3
              | cons v2 vs =>
                cases vs with
                | cons _ _ => simp [asgT] at e3
                | nil =>
                  simp [asgT, asgTs] at e3
                  subst e3
                  obtain ⟨w1, w2, rfl, r1', r2'⟩ := r1.two'
                  exact ⟨w1, w2, rfl, P _ H1 ρ1 R1 (((S.stp R S1).set r1' i).set r2' j) S1⟩
        · cases h
      · cases h
    · split at h
      · rename_i hq
        obtain ⟨h1, h2⟩ := and_b hq
        split at h
        · cases h
          rename_i tg e pos _ _ _ _ _ t me ht he
          have hns : noStar tg = true := by cases tg <;> first | rfl | (simp [cvT] at ht)
          exact ss_asg (sole_no h1) (stores_no (Bool.not_eq_true' _ |>.mp h2)) (by rw [asg_ok hns]; rfl) (ih _ _ he) (cvT_ok s c.calm c.nd ht)
        · cases h
      · cases h
    · rename_i e pos
      cases q : cvE p sc n e with
      | none => rw [q] at h; cases h
      | some me => rw [q] at h; cases h; exact ss_ret (ih _ _ q)
    · cases h; exact ss_retN
    · split at h
      · split at h
        · cases h
          exact ss_ite (iT _ _ (by assumption) (by assumption)) (cvSs_ok n c s hp _ _ (by assumption)) (cvSs_ok n c s hp _ _ (by assumption))
        · cases h
      · cases h
    · split at h
      · split at h
        · cases h
          exact ss_for hp c.calm (folded_ok (by assumption)) (cvI_ok n c s _ _ _ _ _ (by assumption)) (cvT_ok s c.calm c.nd (by assumption)) (cvSs_ok n c s hp _ _ (by assumption))
        · cases h
      · cases h
    · split at h
      · split at h
        · cases h
          exact ss_whl hp (iT _ _ (by assumption) (by assumption)) (cvSs_ok n c s hp _ _ (by assumption))
        · cases h
      · cases h
    · cases h; exact ss_pass
    · cases h; exact ss_brk
    · cases h; exact ss_cont
    · cases h
theorem cvSs_ok : ∀ (n : Nat) {X : Cx} {sc : Scope} {fn : Str → Bool} (c : EC X M p.F p.B k) (s : Stat X sc fn p) (hp : PassesOwn (model X.prog X.w) X.A X.env X.xe) (ss : List Stmt) (mss : List MS), cvSs p fn sc n ss = some mss → SSs X M ss mss
  | 0, _, _, _, _, _, _, _, _, h => by simp [cvSs] at h
  | n + 1, X, sc, fn, c, s, hp, [], _, h => by simp only [cvSs] at h; cases h; exact sss_nil
  | n + 1, X, sc, fn, c, s, hp, st :: ss, _, h => by
    simp only [cvSs] at h
    split at h
    · cases h
      exact sss_cons (cvS_ok n c s hp _ _ (by assumption)) (cvSs_ok n c s hp _ _ (by assumption))
    · cases h
end
end
end Mn

set_option maxHeartbeats 4000000
/-! Top: all defs of a program keep the promises of their small runs; the law's own call. -/
namespace Mn
open PySem PySem.Spec PyProof.Rows L2

/-- a def of the text: its name, its names by slot, its parameters, its small body -/
structure En where
  x : Str
  st : Stmt
  N : List Str
  ps : List Str
  mb : List MS
def tabGm (T : List En) (x : Str) : Option FD := (T.find? fun e => decide (e.x = x)).map fun e => ⟨e.ps.length, e.N.length, e.mb⟩
def names (T : List En) : List Str := T.map (·.x)
structure EnOk (B G F : List Str) (e : En) : Prop where
  S : FnScope e.N e.ps (defScope e.st)
  cv : cvSs ⟨e.N, F, B, G⟩ (fun _ => true) (defScope e.st) 200 (defBody e.st) = some e.mb
structure EnAt (K : PySem.W.Frag) (mg : Str → Option Value) (e : En) (f : Addr) (fd : FuncData) : Prop where
  F : Fun K e.x e.x e.st f fd
  g : mg e.x = some (.ref f)
  b : Binds K fd e.ps []
theorem runF_len {Γ : Str → Option FD} {gl : Str → Option MV} {W d : Nat} {f : Str} {vs : List MV} {mh : MH} {mv : MV} {mh' : MH} {fd : FD} (h : Γ f = some fd) (e : runF Γ gl W d f vs mh = .ok mv mh') : vs.length = fd.np := by
  cases d with
  | zero => cases e
  | succ d =>
    simp only [runF, h] at e
    split at e
    · assumption
    · cases e
theorem tabGm_mem {T : List En} (nd : (names T).Nodup) {e : En} (h : e ∈ T) : tabGm T e.x = some ⟨e.ps.length, e.N.length, e.mb⟩ := by
  unfold tabGm
  have : T.find? (fun e' => decide (e'.x = e.x)) = some e := by
    induction T with
    | nil => cases h
    | cons a T ih =>
      simp only [names, List.map_cons, List.nodup_cons] at nd
      by_cases ha : a.x = e.x
      · rcases List.mem_cons.mp h with rfl | h'
        · simp
        · exfalso
          apply nd.1
          rw [ha]
          exact List.mem_map.mpr ⟨e, h', rfl⟩
      · rw [List.find?_cons_of_neg (by simpa using ha)]
        rcases List.mem_cons.mp h with rfl | h'
        · exact absurd rfl ha
        · exact ih nd.2 h'
  rw [this]
  rfl
section
variable {P : Program} {w : World} {K : PySem.W.Frag} {mg : Str → Option Value} {base : Heap} {T : List En} {B G : List Str} {gl : Str → Option MV} {W : Nat}
theorem program_ok (nd : (names T).Nodup) (hT : ∀ e ∈ T, EnOk B G (names T) e) (hA : ∀ e ∈ T, ∃ f fd, EnAt K mg e f fd) (hB : ∀ x ∈ B, mg x = none)
    (hG : ∀ x v, gl x = some v → ∃ u w', mg x = some u ∧ RelV w' u ∧ ∀ ρ H, Rep K ρ H v w') :
    ∀ d, ∀ e ∈ T, ∀ f fd, EnAt K mg e f fd → FnG P w K mg base d f fd e.ps (spM K (runF (tabGm T) gl W d) e.x e.ps.length) := by
  intro d
  induction d with
  | zero => exact fun e he f fd A => ⟨fun vs H Q E h => (by obtain ⟨_, _, _, _, _, _, _, _, h, _⟩ := h; cases h), fun A outer s H args us vs Q E _ _ _ _ _ h => (by obtain ⟨_, _, _, _, _, _, _, _, h, _⟩ := h; cases h)⟩
  | succ d ih =>
    intro e he f fd A
    have ok := hT e he
    refine fnG_of A.F ok.S (tabGm_mem nd he) fun X hp hw hK hm hb hc hg hr hbc hk => ?_
    subst hp hw hK hm hb
    have ec : EC X ⟨runF (tabGm T) gl W d, gl, W⟩ (names T) B d := by
      refine ⟨hc, by rw [hbc.N]; exact ok.S.nd, hg, hr, fun x hx => ?_, hB, hG⟩
      obtain ⟨e', he', rfl⟩ := List.mem_map.mp hx
      obtain ⟨f', fd', A'⟩ := hA e' he'
      exact ⟨f', fd', e'.ps, A'.g, A'.F.kp, A'.b, ih e' he' f' fd' A', fun vs mh mv mh' h => runF_len (tabGm_mem nd he') h⟩
    exact cvSs_ok 200 (p := ⟨e.N, names T, B, G⟩) ec ⟨hbc.sc, hk, hbc.N, fun x _ => hbc.fn x⟩ (by rw [hbc.xe]; exact .never) _ _ ok.cv
end
/-- a small value of the module's constants -/
theorem gl_int {K : PySem.W.Frag} {mg : Str → Option Value} {x : Str} {i : Int} {t : Tok} (h : mg x = some (.int i t)) : ∃ u w', mg x = some u ∧ RelV w' u ∧ ∀ ρ H, Rep K ρ H (.int i) w' := ⟨_, .int i, h, ⟨t, rfl⟩, fun _ _ => .int i⟩
/-- the law's call, from the small run -/
theorem call_mini {P : Program} {w : World} {K : PySem.W.Frag} {mg mb : Str → Option Value} {k : Nat} {fa a : Addr} {fd : FuncData} {x : Str} {call : Str → List MV → MH → R MV} {nm : Str} {s₁ : Shared} {vs : List Value} {ns : List Int}
    (KX : K.In s₁.heap) (hns : s₁.heap.Ns mainGlobals mg) (hb : s₁.heap.Ns builtinsNs mb) (hbb : ∀ x : Str, x ≠ "__name__" → mb x = bootBuiltins x) (hlim : s₁.heap.NoLimit) (hg : s₁.gens = #[])
    (ha : s₁.heap.get? a = some { cls := .type "list", data := .seq vs.toArray }) (hi : IntsAre vs ns) (hl : ns.length ≤ sizeLine) (hr : Room k callerA)
    (F : ∀ base : Heap, K.In base → base.Ns mainGlobals mg → FnG P w K mg base k fa fd [x] (spM K call nm 1)) (hbind : ∀ (s : Shared) (u : Value), BindsTo s fd ⟨[u], []⟩ [(x, u)])
    (run : ∃ mh', call nm [.ref 0] [.fro (ns.map .int)] = .ok (.bl true) mh') :
    codeAny (model P w) callerA (.call (.ref fa) ⟨[.ref a], []⟩) (fun r s' => r = .ok (.ret (.bool true)) ∧ OldK s₁.heap s'.heap ∧ s'.os = s₁.os ∧ AllBare s'.gens) s₁ := by
  have rv := vals_ints hi
  have lenV := hi.length
  have go : ∀ H : Hp, FzL K H a (ns.map V.int) → (∀ b, H b = none ∨ b = a) → (∀ u, H a = some u → K.lookup a = none ∧ u = .frz { cls := .type "list", data := .seq vs.toArray } (.lst (ns.map V.int))) →
      codeAny (model P w) callerA (.call (.ref fa) ⟨[.ref a], []⟩) (fun r s' => r = .ok (.ret (.bool true)) ∧ OldK s₁.heap s'.heap ∧ s'.os = s₁.os ∧ AllBare s'.gens) s₁ := by
    intro H hS hA hF
    have noneOf : ∀ {b : Addr} {o : Obj}, s₁.heap.get? b = some o → o ≠ { cls := .type "list", data := .seq vs.toArray } → H b = none := fun {b o} e ne => by
      rcases hA b with z | rfl
      · exact z
      · rw [ha] at e
        exact absurd (Option.some.inj e).symm ne
    have ok : HOk P w H s₁.heap := fun b u e => by
      rcases hA b with z | rfl
      · rw [z] at e; cases e
      · obtain ⟨_, rfl⟩ := hF u e
        exact ⟨ha, by rw [List.length_map]; exact hl, vs, _, rv, ha⟩
    have onB : ∀ {b : Addr} {m : Str → Option Value}, s₁.heap.Ns b m → (hidT s₁.heap H).Ns b m := fun {b m} n => by
      obtain ⟨o, es, ep, e, d, r⟩ := n
      exact ⟨o, es, ep, hidT_get e (noneOf e fun z => by rw [z] at d; cases d), d, r⟩
    have inB : K.In (hidT s₁.heap H) := fun b o e => hidT_get (KX b o e) (by
      rcases hA b with z | rfl
      · exact z
      · cases q : H b with
        | none => rfl
        | some u => rw [(hF u q).1] at e; cases e)
    have modB : Mod K mg (hidT s₁.heap H) := ⟨inB, onB hns, ⟨mb, onB hb, hbb⟩, by
      obtain ⟨mc, h1, h2⟩ := hlim
      exact ⟨mc, onB h1, h2⟩⟩
    have env0 : Env0 P w K mg (hidT s₁.heap H) callerA [] s₁ H :=
      { frames := rfl, mod := modB, bs := fun b o e => of_hidT e, bsz := Nat.le_of_eq (hidT_size _ _), funs := trivial, frf := fun b hb => (nomatch hb), hok := ok, bare := .of_eq hg }
    have R0 : RepH K [a] [.fro (ns.map .int)] H := by
      refine ⟨rfl, fun i j p oa ob e1 e2 e3 e4 m1 m2 => ?_, fun i p o e1 e2 => ?_⟩
      · cases i with
        | zero => simp at e3; subst e3; cases m1
        | succ i => simp at e3
      · cases i with
        | zero =>
          simp at e1 e2
          subst e1 e2
          exact ⟨_, hS, .ofInts ns⟩
        | succ i => simp at e2
    obtain ⟨mh', run⟩ := run
    have prom : spM K call nm 1 [.ref a] H (fun v _ => v = .bl true) (fun _ _ _ => False) :=
      ⟨[a], _, [.ref 0], _, mh', R0, .cons (.ref rfl) .nil, rfl, run, fun v H' ρ' _ r _ => by cases r; rfl⟩
    refine codeAny_mono ((F _ inB (onB hns)).run callerA [] s₁ H ⟨[.ref a], []⟩ [.ref a] [.ref a] _ _ rfl hr env0 (hbind s₁ (.ref a)) (.cons rfl .nil) prom) fun r s' h => ?_
    cases r with
    | error e => exact (show False from h).elim
    | ok fl =>
      cases fl with
      | ret u =>
        obtain ⟨v, H', os, bare, un, ok', rel, q⟩ := h
        have q' : v = .bl true := q
        subst q'
        have hu : u = Value.bool true := rel
        subst hu
        refine ⟨rfl, OldK.of_keep fun b o e => ?_, os, bare⟩
        cases q : H b with
        | none => exact un.keep b o e q (by intro z; cases z) (by intro z; cases z)
        | some u =>
          rcases hA b with z | rfl
          · rw [q] at z; cases z
          · obtain ⟨_, rfl⟩ := hF u q
            obtain ⟨e2, _⟩ := ok' b _ (un.frzs b _ _ q)
            rw [ha] at e
            cases e
            exact e2
      | _ => exact False.elim h
  cases hk : K.lookup a with
  | some o =>
    have e := KX a o hk
    rw [ha] at e
    cases e
    exact go (fun _ => none) (.inr (.inr ⟨_, vs.toArray, _, hk, rfl, rfl, rfl, by rw [List.size_toArray, lenV]; exact hl, by simpa using rv⟩)) (fun _ => .inl rfl) (fun u z => by cases z)
  | none =>
    refine go (fun b => if b = a then some (.frz { cls := .type "list", data := .seq vs.toArray } (.lst (ns.map V.int))) else none) (.inl ⟨_, if_pos rfl⟩) (fun b => ?_) (fun u z => ⟨hk, ?_⟩)
    · by_cases hb : b = a
      · exact .inr hb
      · exact .inl (if_neg hb)
    · have z' := (if_pos rfl).symm.trans z
      exact (Option.some.inj z').symm
/-- the goal that k_head leaves -/
theorem walk_mini {l : PySem.W.OpenLaw} {n k : Nat} {q : Program} {loose : List Str} {XP : (Str → Option Value) → Heap → Prop} {YP : World → Heap → Prop} {d : DefRec} {K : Params → PySem.W.Frag} {x : Str} {call : Str → List MV → MH → R MV}
    (hn : l.most = some n) (hn2 : n ≤ sizeLine) (hdf : d.params.defaults = []) (hr : Room k callerA) (hY : ∀ (w : World) (h : Heap), YP w h → (K w.params).In h)
    (run : ∀ ns : List Int, ns.length ≤ n → ∃ mh', call d.name [.ref 0] [.fro (ns.map .int)] = .ok (.bl true) mh')
    (F : ∀ (w : World) (mg : Str → Option Value) (fa : Addr) (h : Heap), (K w.params).In h → h.Ns mainGlobals mg → mg d.name = some (.ref fa) →
      ∃ fd : FuncData, (∀ (s : Shared) (u : Value), BindsTo s fd ⟨[u], []⟩ [(x, u)]) ∧
        ∀ base : Heap, (K w.params).In base → base.Ns mainGlobals mg → FnG l.prog w (K w.params) mg base k fa fd [x] (spM (K w.params) call d.name 1)) :
    PySem.W.WalkO q loose XP YP l.row.toRowW d [] (fun f vs => PySem.call f vs) := by
  refine Att.attach_call hn hdf fun w s₀ s₁ mg mb fa o pm cd doc a vs ns G Y ho hd hcd hmg hobj hints hlen hg => ?_
  have KX := hY w _ Y
  obtain ⟨fd, hb, hF⟩ := F w mg fa _ KX G.T.g hmg
  exact call_mini KX G.T.g G.T.b G.T.builtins G.T.nolimit hg hobj hints (Nat.le_trans hlen hn2) hr hF hb (run ns hlen)
end Mn

set_option maxHeartbeats 1000000
/-! Lib: how small runs are shown. -/
namespace Mn
open PySem L2

/-- the run comes to a value of which P holds -/
def Ev {α : Type} (r : R α) (P : α → MH → Prop) : Prop := ∃ a h, r = .ok a h ∧ P a h
section
variable {α β : Type} {r : R α} {f : α → MH → R β} {P : β → MH → Prop} {Q Q' : α → MH → Prop} {a : α} {h : MH}
theorem Ev.bind (e : Ev r fun a h => Ev (f a h) P) : Ev (r.bind f) P := by
  obtain ⟨a, h, rfl, b, h', e, p⟩ := e
  exact ⟨b, h', e, p⟩
theorem Ev.ok (p : Q a h) : Ev (.ok a h) Q := ⟨a, h, rfl, p⟩
theorem Ev.imp (e : Ev r Q) (i : ∀ a h, Q a h → Q' a h) : Ev r Q' := by
  obtain ⟨a, h, e, p⟩ := e
  exact ⟨a, h, e, i a h p⟩
theorem Ev.of (e : r = .ok a h) (p : Q a h) : Ev r Q := ⟨a, h, e, p⟩
@[simp] theorem bind_val : (R.ok a h).bind f = f a h := rfl
theorem bind_assoc {γ : Type} {g : β → MH → R γ} : (r.bind f).bind g = r.bind fun a h => (f a h).bind g := by cases r <;> rfl
@[simp] theorem bind_bad : (R.bad : R α).bind f = .bad := rfl
end
theorem ofO_some {α : Type} {a : α} {h : MH} : ofO (some a) h = .ok a h := rfl
theorem ofB_some {b : Bool} {h : MH} : ofB (some b) h = .ok (.bl b) h := rfl
/-! ### loops -/
section
variable {xs : List MV} {σ : MS'} {h : MH}
theorem turn_fix {i n : Nat} {v : MV} (e : xs[i]? = some v) (hl : xs.length = i + n) : turnI (.fix xs) h i n = some v := by
  simp [turnI, It.items, hl, e]
theorem done_fix : doneI (.fix xs) h xs.length = true := by simp [doneI, It.items]
/-- a for over what stays -/
theorem for_fix {step : MV → MS' → MH → R Fl} (I : Nat → MS' → MH → Prop) (h0 : I 0 σ h)
    (turn : ∀ i v σ h, xs[i]? = some v → I i σ h → Ev (step v σ h) fun fl h' => ∃ σ', fl = .nx σ' ∧ I (i + 1) σ' h') :
    Ev (forGo (.fix xs) step xs.length 0 σ h) fun fl h' => ∃ σ', fl = .nx σ' ∧ I xs.length σ' h' := by
  have go : ∀ n i σ h, xs.length = i + n → I i σ h → Ev (forGo (.fix xs) step n i σ h) fun fl h' => ∃ σ', fl = .nx σ' ∧ I xs.length σ' h' := by
    intro n
    induction n with
    | zero =>
      intro i σ h hl p
      have : i = xs.length := by omega
      subst this
      simp only [forGo, done_fix, if_true]
      exact .ok ⟨σ, rfl, p⟩
    | succ n ih =>
      intro i σ h hl p
      have hi : i < xs.length := by omega
      have e : xs[i]? = some xs[i] := List.getElem?_eq_getElem hi
      simp only [forGo, turn_fix e hl]
      refine .bind ((turn i _ σ h e p).imp fun fl h' q => ?_)
      obtain ⟨σ', rfl, q⟩ := q
      exact ih (i + 1) σ' h' (by omega) q
  exact go xs.length 0 σ h (by omega) h0
/-- a for over what stays, over any iterator whose items stay -/
theorem for_it {it : It} {step : MV → MS' → MH → R Fl} (I : Nat → MS' → MH → Prop) (h0 : I 0 σ h) (hit : ∀ i σ h, I i σ h → it.items h = some xs)
    (turn : ∀ i v σ h, xs[i]? = some v → I i σ h → Ev (step v σ h) fun fl h' => ∃ σ', fl = .nx σ' ∧ I (i + 1) σ' h') :
    Ev (forGo it step xs.length 0 σ h) fun fl h' => ∃ σ', fl = .nx σ' ∧ I xs.length σ' h' := by
  have go : ∀ n i σ h, xs.length = i + n → I i σ h → Ev (forGo it step n i σ h) fun fl h' => ∃ σ', fl = .nx σ' ∧ I xs.length σ' h' := by
    intro n
    induction n with
    | zero =>
      intro i σ h hl p
      have : i = xs.length := by omega
      subst this
      simp only [forGo, doneI, hit _ _ _ p, beq_self_eq_true, if_true]
      exact .ok ⟨σ, rfl, p⟩
    | succ n ih =>
      intro i σ h hl p
      have hi : i < xs.length := by omega
      have e : xs[i]? = some xs[i] := List.getElem?_eq_getElem hi
      have et : turnI it h i (n + 1) = some xs[i] := by simp [turnI, hit _ _ _ p, hl, e]
      simp only [forGo, et]
      refine .bind ((turn i _ σ h e p).imp fun fl h' q => ?_)
      obtain ⟨σ', rfl, q⟩ := q
      exact ih (i + 1) σ' h' (by omega) q
  exact go xs.length 0 σ h (by omega) h0
/-- a comprehension -/
theorem comp_it {it : It} {step : MV → MH → R (Option MV)} (I : Nat → List MV → MH → Prop) (h0 : I 0 [] h) (hit : ∀ i ys h, I i ys h → it.items h = some xs)
    (turn : ∀ i v ys h, xs[i]? = some v → I i ys h → Ev (step v h) fun o h' => match o with
      | none => I (i + 1) ys h'
      | some y => ys.length < lineM ∧ I (i + 1) (ys ++ [y]) h') :
    Ev (compGo it step xs.length 0 [] h) fun ys h' => I xs.length ys h' := by
  have go : ∀ n i ys h, xs.length = i + n → I i ys h → Ev (compGo it step n i ys h) fun ys h' => I xs.length ys h' := by
    intro n
    induction n with
    | zero =>
      intro i ys h hl p
      have : i = xs.length := by omega
      subst this
      simp only [compGo, doneI, hit _ _ _ p, beq_self_eq_true, if_true]
      exact .ok p
    | succ n ih =>
      intro i ys h hl p
      have hi : i < xs.length := by omega
      have e : xs[i]? = some xs[i] := List.getElem?_eq_getElem hi
      have et : turnI it h i (n + 1) = some xs[i] := by simp [turnI, hit _ _ _ p, hl, e]
      simp only [compGo, et]
      refine .bind ((turn i _ ys h e p).imp fun o h' q => ?_)
      cases o with
      | none => exact ih (i + 1) ys h' (by omega) q
      | some y =>
        dsimp only
        rw [if_pos q.1]
        exact ih (i + 1) (ys ++ [y]) h' (by omega) q.2
  exact go xs.length 0 [] h (by omega) h0
/-- a comprehension that changes nothing: each item gives g of it -/
theorem comp_pure {step : MV → MH → R (Option MV)} (g : MV → Option MV) (hs : ∀ v ∈ xs, step v h = .ok (g v) h) (hl : xs.length ≤ lineM) :
    compGo (.fix xs) step xs.length 0 [] h = .ok (xs.filterMap g) h := by
  have := comp_it (it := .fix xs) (step := step) (h := h) (xs := xs) (fun i ys h' => h' = h ∧ ys = (xs.take i).filterMap g ∧ ys.length ≤ i) ⟨rfl, by simp, by simp⟩ (fun _ _ _ _ => rfl)
    (fun i v ys h' e ⟨e1, e2, e3⟩ => by
      subst e1
      have hi := (List.getElem?_eq_some_iff.mp e).1
      refine .of (hs v (List.mem_of_getElem? e)) ?_
      have ht : (xs.take (i + 1)).filterMap g = (xs.take i).filterMap g ++ (g v).toList := by
        rw [List.take_add_one, e, List.filterMap_append]
        cases q : g v <;> simp [q]
      cases q : g v with
      | none => exact ⟨rfl, by rw [ht, q]; simpa using e2, by omega⟩
      | some y => exact ⟨by omega, rfl, by rw [ht, q, e2]; rfl, by simp; omega⟩)
  obtain ⟨ys, h', e, e1, e2, _⟩ := this
  rw [e, e1, e2, List.take_length]
/-- a comprehension over a written list -/
theorem comp_map {α : Type} {L : List α} {f : α → MV} {g : α → Option MV} {step : MV → MH → R (Option MV)} (hs : ∀ a ∈ L, step (f a) h = .ok (g a) h) (hl : L.length ≤ lineM) :
    compGo (.fix (L.map f)) step (L.map f).length 0 [] h = .ok (L.filterMap g) h := by
  have := comp_it (it := .fix (L.map f)) (step := step) (h := h) (xs := L.map f) (fun i ys h' => h' = h ∧ ys = (L.take i).filterMap g ∧ ys.length ≤ i) ⟨rfl, by simp, by simp⟩ (fun _ _ _ _ => rfl)
    (fun i v ys h' e ⟨e1, e2, e3⟩ => by
      subst e1
      have hi : i < L.length := by simpa using (List.getElem?_eq_some_iff.mp e).1
      have ev : v = f L[i] := by
        have := (List.getElem?_eq_some_iff.mp e).2
        simpa using this.symm
      subst ev
      refine .of (hs _ (List.getElem_mem hi)) ?_
      have ht : (L.take (i + 1)).filterMap g = (L.take i).filterMap g ++ (g L[i]).toList := by
        rw [List.take_add_one, List.getElem?_eq_getElem hi, List.filterMap_append]
        cases q : g L[i] <;> simp [q]
      cases q : g L[i] with
      | none => exact ⟨rfl, by rw [ht, q]; simpa using e2, by omega⟩
      | some y => exact ⟨by omega, rfl, by rw [ht, q, e2]; rfl, by simp; omega⟩)
  obtain ⟨ys, h', e, e1, e2, _⟩ := this
  rw [e, e1, e2]
  simp [List.take_of_length_le]
/-- a while -/
theorem whl_ok {test : MS' → MH → R MV} {step : MS' → MH → R Fl} (I : Nat → MS' → MH → Prop) (D : MS' → MH → Prop) {k : Nat} (h0 : I k σ h)
    (turn : ∀ k σ h, I k σ h → Ev (test σ h) fun v h' => (truth h' v = some false ∧ D σ h') ∨ (truth h' v = some true ∧ Ev (step σ h') fun fl h2 => ∃ σ2, fl = .nx σ2 ∧ ∃ k', k' < k ∧ I k' σ2 h2)) :
    ∀ n, k < n → Ev (whlGo test step n σ h) fun fl h' => ∃ σ', fl = .nx σ' ∧ D σ' h' := by
  intro n
  induction n generalizing k σ h with
  | zero => intro z; omega
  | succ n ih =>
    intro hn
    simp only [whlGo]
    refine .bind ((turn k σ h h0).imp fun v h' q => ?_)
    rcases q with ⟨t, d⟩ | ⟨t, q⟩
    · rw [t]; exact .ok ⟨σ, rfl, d⟩
    · rw [t]
      refine .bind (q.imp fun fl h2 z => ?_)
      obtain ⟨σ2, rfl, k', lt, i2⟩ := z
      exact ih i2 (by omega)
end
/-! ### trees of values without places -/
mutual
/-- the tree of a value without places -/
def tr : MV → PyData
  | .non => .none
  | .bl b => .bool b
  | .int i => .int i
  | .str s => .str s
  | .tup xs => .tuple (trs xs)
  | .ref _ => .none
def trs : List MV → List PyData
  | [] => []
  | x :: xs => tr x :: trs xs
end
mutual
theorem dV_tr {f : Nat → Option PyData} : ∀ {v : MV}, noRef v = true → dV f v = some (tr v)
  | .non, _ => rfl
  | .bl _, _ => rfl
  | .int _, _ => rfl
  | .str _, _ => rfl
  | .ref _, h => by simp [noRef] at h
  | .tup xs, h => by simp only [noRef] at h; simp [dV, tr, dVs_trs h]
theorem dVs_trs {f : Nat → Option PyData} : ∀ {v : List MV}, noRefs v = true → dVs f v = some (trs v)
  | [], _ => rfl
  | x :: xs, h => by simp only [noRefs, Bool.and_eq_true] at h; simp [dVs, trs, dV_tr h.1, dVs_trs h.2]
end
theorem snap_tr {h : MH} {v : MV} (e : noRef v = true) : snap h v = some (tr v) := dV_tr e
theorem snap_lst {h : MH} {a : Nat} {xs : List MV} (e : lsts h a = some xs) (q : noRefs xs = true) : snap h (.ref a) = some (.list (trs xs)) := by
  unfold snap dV snapR
  unfold lsts at e
  split at e
  · cases e; simp [*, dVs_trs q]
  · cases e; simp [*, dVs_trs q]
  · cases e
/-! ### what is kept at a return -/
theorem kept_app {h J : MH} : keptOk h (h ++ J) = true := by
  unfold keptOk
  rw [List.all_eq_true]
  intro i hi
  have : i < h.length := by simpa using hi
  simp [List.getElem?_append_left this]
theorem trim_app {h J : MH} {v : MV} (e : noRef v = true) : trimM h v (h ++ J) = .ok v h := by
  unfold trimM
  simp [kept_app, e]
theorem trim_self {h : MH} {v : MV} (e : noRef v = true) : trimM h v h = .ok v h := by
  have := trim_app (h := h) (J := []) e
  simpa using this
/-- where h2 is h but for an object that holds no younger place -/
theorem kept_of {h h2 J : MH} (hl : h2.length = h.length) (k : ∀ i : Nat, i < h.length → h2[i]? = h[i]? ∨ ∃ o : MO, h2[i]? = some o ∧ o.bel h.length = true) : keptOk h (h2 ++ J) = true := by
  unfold keptOk
  rw [List.all_eq_true]
  intro i hi
  have hi : i < h.length := by simpa using hi
  rw [List.getElem?_append_left (by omega)]
  rcases k i hi with z | ⟨o, z1, z2⟩
  · simp [z]
  · simp [z1, z2]
theorem trim_of {h h2 J : MH} {v : MV} (e : noRef v = true) (hl : h2.length = h.length) (k : ∀ i : Nat, i < h.length → h2[i]? = h[i]? ∨ ∃ o : MO, h2[i]? = some o ∧ o.bel h.length = true) : trimM h v (h2 ++ J) = .ok v h2 := by
  unfold trimM
  have := kept_of (J := J) hl k
  simp only [this, e, if_true, Bool.and_true]
  rw [if_pos (by simp; omega), ← hl]
  simp
theorem trim_take {h h2 : MH} {v : MV} (e : noRef v = true) (hl : h.length ≤ h2.length) (k : ∀ i : Nat, i < h.length → h2[i]? = h[i]? ∨ ∃ o : MO, h2[i]? = some o ∧ o.bel h.length = true) : trimM h v h2 = .ok v (h2.take h.length) := by
  unfold trimM
  have z : keptOk h h2 = true := by
    unfold keptOk
    rw [List.all_eq_true]
    intro i hi
    have hi : i < h.length := by simpa using hi
    rcases k i hi with z | ⟨o, z1, z2⟩
    · simp [z]
    · simp [z1, z2]
  simp [z, e, hl]
theorem trim_any {h h2 : MH} {v : MV} (e : noRef v = true) : Ev (trimM h v h2) fun v' _ => v' = v := by
  simp only [trimM, e, if_true]
  split
  · exact .ok rfl
  · exact .ok rfl
theorem runF_succ {Γ : Str → Option FD} {gl : Str → Option MV} {W d : Nat} {f : Str} {vs : List MV} {h : MH} {fd : FD} (e : Γ f = some fd) (hl : vs.length = fd.np) :
    runF Γ gl W (d + 1) f vs h = finM h (evSs ⟨runF Γ gl W d, gl, W⟩ fd.body (vs.map some ++ List.replicate (fd.nl - fd.np) none) h) := by
  simp only [runF, e, hl, if_true]
theorem run_ev {Γ : Str → Option FD} {gl : Str → Option MV} {W d : Nat} {f : Str} {vs : List MV} {h : MH} {fd : FD} {P : MV → MH → Prop} (e : Γ f = some fd) (hl : vs.length = fd.np)
    (b : Ev (evSs ⟨runF Γ gl W d, gl, W⟩ fd.body (vs.map some ++ List.replicate (fd.nl - fd.np) none) h) fun fl h' => match fl with
      | .ret v => Ev (trimM h v h') P
      | .nx _ => Ev (trimM h .non h') P
      | _ => False) : Ev (runF Γ gl W (d + 1) f vs h) P := by
  rw [runF_succ e hl]
  obtain ⟨fl, h', e, p⟩ := b
  rw [e]
  cases fl with
  | ret v => exact p
  | nx _ => exact p
  | brk _ => exact p.elim
  | cont _ => exact p.elim
/-! ### single steps -/
section
variable {h : MH} {i j : Int} {x y : MV} {xs ys : List MV} {b : Bool} {a : Nat} {X : Cm} {σ : MS'}
theorem bn_add : binM .Add (.int i) (.int j) h = .ok (.int (i + j)) h := rfl
theorem bn_sub : binM .Sub (.int i) (.int j) h = .ok (.int (i - j)) h := rfl
theorem bn_mul (c : i.natAbs < 2 ^ 64 ∨ j.natAbs < 2 ^ 64) : binM .Mult (.int i) (.int j) h = .ok (.int (i * j)) h := by simp only [binM, c, if_true]
theorem bn_div (c : 0 < j ∧ j < 1073741824) : binM .FloorDiv (.int i) (.int j) h = .ok (.int (i / j)) h := by simp only [binM, c, and_self, if_true]
theorem bn_mod (c : 0 < j) : binM .Mod (.int i) (.int j) h = .ok (.int (i % j)) h := by simp only [binM, c, if_true]
theorem bn_pow (c : 0 ≤ j ∧ j ≤ 1000000 ∧ i.natAbs < 2 ^ 64) : binM .Pow (.int i) (.int j) h = .ok (.int (i ^ j.toNat)) h := by simp only [binM, c, and_self, if_true]
theorem bn_shl (c : 0 ≤ j ∧ j ≤ 1000000 ∧ i.natAbs < 2 ^ 64) : binM .LShift (.int i) (.int j) h = .ok (.int (i * 2 ^ j.toNat)) h := by simp only [binM, c, and_self, if_true]
theorem bn_shr (c : 0 ≤ j) : binM .RShift (.int i) (.int j) h = .ok (.int (i / 2 ^ j.toNat)) h := by simp only [binM, c, if_true]
theorem bn_band : binM .BitAnd (.int i) (.int j) h = .ok (.int (Builtin.bitAnd i j)) h := rfl
theorem bn_addT (c : xs.length + ys.length ≤ lineM) : binM .Add (.tup xs) (.tup ys) h = .ok (.tup (xs ++ ys)) h := by simp only [binM, c, if_true]
theorem bn_addL {u v : Nat} (e1 : h[u]? = some (.lst xs)) (e2 : h[v]? = some (.lst ys)) (c : xs.length + ys.length ≤ lineM) : binM .Add (.ref u) (.ref v) h = .ok (.ref h.length) (h ++ [.lst (xs ++ ys)]) := by simp only [binM, e1, e2, c, if_true, newO]
theorem bn_mulL (e : h[a]? = some (.lst xs)) (c : -(2 ^ 63) ≤ i ∧ i < 2 ^ 63 ∧ xs.length * i.toNat ≤ lineM) : binM .Mult (.ref a) (.int i) h = .ok (.ref h.length) (h ++ [.lst (List.replicate i.toNat xs).flatten]) := by simp only [binM, e, c, and_self, if_true, newO]
theorem bn_mulT (c : 2 ≤ i ∧ i ≤ 1000 ∧ xs.length ≤ 1000 ∧ xs ≠ []) : binM .Mult (.tup xs) (.int i) h = .ok (.tup (List.replicate i.toNat xs).flatten) h := by simp only [binM, c, and_self, if_true, ne_eq, not_false_eq_true]
theorem bn_addS {u v : Str} (c : u.length + v.length ≤ lineM) : binM .Add (.str u) (.str v) h = .ok (.str (u ++ v)) h := by simp only [binM, c, if_true]
theorem eq_int : eqM h (.int i) (.int j) = some (i == j) := by
  have s : ∀ i, shp (.int i) = true := fun i => rfl
  simp [eqM, strOf, eqD, snap, dV, s, PyData.eqv]
theorem cm_eq : cmpM .Eq (.int i) (.int j) h = some (i == j) := by simp only [cmpM]; exact eq_int
theorem cm_ne : cmpM .NotEq (.int i) (.int j) h = some (!(i == j)) := by simp only [cmpM]; rw [eq_int]; rfl
theorem eq_bl {c d : Bool} : eqM h (.bl c) (.bl d) = some (c == d) := by
  have s : ∀ i, shp (.bool i) = true := fun i => rfl
  simp [eqM, strOf, eqD, snap, dV, s, PyData.eqv]
theorem cm_eqB {c d : Bool} : cmpM .Eq (.bl c) (.bl d) h = some (c == d) := by simp only [cmpM]; exact eq_bl
theorem cm_neB {c d : Bool} : cmpM .NotEq (.bl c) (.bl d) h = some (!(c == d)) := by simp only [cmpM]; rw [eq_bl]; rfl
theorem eq_str {c d : Str} : eqM h (.str c) (.str d) = some (decide (c = d)) := rfl
theorem cm_eqS {c d : Str} : cmpM .Eq (.str c) (.str d) h = some (decide (c = d)) := by simp only [cmpM]; exact eq_str
theorem cm_neS {c d : Str} : cmpM .NotEq (.str c) (.str d) h = some (!decide (c = d)) := by simp only [cmpM]; rw [eq_str]; rfl
theorem cm_lt : cmpM .Lt (.int i) (.int j) h = some (decide (i < j)) := rfl
theorem cm_le : cmpM .LtE (.int i) (.int j) h = some (decide (i ≤ j)) := rfl
theorem cm_gt : cmpM .Gt (.int i) (.int j) h = some (decide (j < i)) := rfl
theorem cm_ge : cmpM .GtE (.int i) (.int j) h = some (decide (j ≤ i)) := rfl
theorem cm_in {h : MH} : cmpM .In x y h = inM h x y := rfl
theorem cm_notin {h : MH} : cmpM .NotIn x y h = (inM h x y).map (!·) := rfl
theorem tru_bl : truth h (.bl b) = some b := rfl
theorem tru_int : truth h (.int i) = some (i != 0) := rfl
theorem sum_ref (e : lsts h a = some xs) {ns : List Int} (n : allInts xs = some ns) : bltM .sum [.ref a] h = .ok (.int ns.sum) h := by simp only [bltM, e, Option.bind_some, n]
theorem len_ref (e : h[a]? = some (.lst xs)) : bltM .len [.ref a] h = .ok (.int xs.length) h := by simp only [bltM, e]
theorem len_tup : bltM .len [.tup xs] h = .ok (.int xs.length) h := rfl
theorem tup_ref (e : lsts h a = some xs) : bltM .tuple [.ref a] h = .ok (.tup xs) h := by simp only [bltM, e]
theorem lst_ref (e : lsts h a = some xs) : bltM .list [.ref a] h = .ok (.ref h.length) (h ++ [.lst xs]) := by simp only [bltM, seqs, e, newO]
theorem lst_tup : bltM .list [.tup xs] h = .ok (.ref h.length) (h ++ [.lst xs]) := rfl
theorem int_int : bltM .int [.int i] h = .ok (.int i) h := rfl
theorem int_bl : bltM .int [.bl b] h = .ok (.int (if b then 1 else 0)) h := rfl
theorem max_int : bltM .max [.int i, .int j] h = .ok (.int (if j > i then j else i)) h := rfl
theorem min_int : bltM .min [.int i, .int j] h = .ok (.int (if j < i then j else i)) h := rfl
theorem lsts_lst (e : h[a]? = some (.lst xs)) : lsts h a = some xs := by simp only [lsts, e]
theorem lsts_new : lsts (h ++ [.lst xs]) h.length = some xs := by simp [lsts]
theorem get_new {o : MO} : (h ++ [o])[h.length]? = some o := by simp
theorem ix_tup {k : Nat} (e : xs[k]? = some x) : ixM (.tup xs) (.int (k : Int)) h = .ok x h := by
  have hk := (List.getElem?_eq_some_iff.mp e).1
  have e' := (List.getElem?_eq_some_iff.mp e).2
  simp [ixM, atI, ixN, hk, e', ofO]
theorem ix_ref {k : Nat} (hl : lsts h a = some xs) (e : xs[k]? = some x) : ixM (.ref a) (.int (k : Int)) h = .ok x h := by
  have hk := (List.getElem?_eq_some_iff.mp e).1
  have e' := (List.getElem?_eq_some_iff.mp e).2
  simp only [ixM, hl]
  cases z : h[a]? with
  | none => simp [lsts, z] at hl
  | some o =>
    cases o with
    | dct kvs => simp [lsts, z] at hl
    | lst ys => simp [atI, ixN, hk, e', ofO]
    | fro ys => simp [atI, ixN, hk, e', ofO]
theorem sl_h1 {h : MH} {a : Nat} {x : MV} {xs : List MV} (e : lsts h a = some (x :: xs)) : slM (.ref a) none (some 1) h = .ok (.ref h.length) (h ++ [.lst [x]]) := by
  simp only [slM, e, newO]
  have : cutM (x :: xs) none (some 1) = [x] := by
    have := HT.sIx_nat (x :: xs).length (x :: xs).length 1
    simp only [cutM, HT.sIx_none, List.drop_zero, Nat.sub_zero]
    rw [show (1 : Int) = ((1 : Nat) : Int) from rfl, this]
    simp
  rw [this]
theorem allInts_map : ∀ ns : List Int, allInts (ns.map .int) = some ns
  | [] => rfl
  | n :: ns => by simp [allInts, allInts_map ns]
theorem allBls_map : ∀ ns : List Bool, allBls (ns.map .bl) = some ns
  | [] => rfl
  | n :: ns => by simp [allBls, allBls_map ns]
theorem app_meth {kd : Kd} (e : h[a]? = some (.lst xs)) (hk : kd = .list) (c : xs.length < lineM) : methM .append kd (.ref a) [x] h = .ok .non (h.set a (.lst (xs ++ [x]))) := by subst hk; simp only [methM, e, c, if_true]
theorem kd_lst (e : h[a]? = some (.lst xs)) : kdM h (.ref a) = some .list := by simp only [kdM, e]
end
/-! ### lists of places -/
def nV (k : Nat) : MV := .int k
def nats (L : List Nat) : List MV := L.map nV
theorem rng_nats (n : Nat) : rngI 0 n = nats (List.range n) := by
  simp only [rngI, nats]
  refine List.map_congr_left fun k _ => ?_
  simp [nV]
theorem rng1_nats (n : Nat) : rngI 1 n = nats (List.range' 1 n) := by
  simp only [rngI, nats, List.range'_eq_map_range, List.map_map]
  refine List.map_congr_left fun k _ => ?_
  simp [nV]
theorem comp_filter {L : List Nat} {q : Nat → Bool} {h : MH} {step : MV → MH → R (Option MV)} (hs : ∀ p ∈ L, step (nV p) h = .ok (if q p then some (nV p) else none) h) (hl : L.length ≤ lineM) :
    compGo (.fix (nats L)) step (nats L).length 0 [] h = .ok (nats (L.filter q)) h := by
  rw [nats, comp_map (g := fun p => if q p then some (nV p) else none) hs hl]
  congr 1
  clear hs hl
  induction L with
  | nil => rfl
  | cons p L ih => cases c : q p <;> simp [c, nats] <;> simpa [nats] using ih
theorem eqF_int {i j : Int} : eqF (.int i) (.int j) = (i == j) := by simp [eqF, snap, dV, PyData.eqv]
theorem any_nats {L : List Nat} {x : Nat} : ((nats L).any fun z => eqF z (.int x)) = decide (x ∈ L) := by
  induction L with
  | nil => rfl
  | cons p L ih =>
    simp only [nats, List.map_cons, List.any_cons, nV, eqF_int] at ih ⊢
    rw [ih]
    by_cases c : x = p
    · simp [c]
    · have : (((p : Nat) : Int) == (x : Nat)) = false := by simp; omega
      simp [c, this]
theorem flat_nats {L : List Nat} : (nats L).all flatM = true := by simp [nats, nV, flatM]
theorem in_nats {h : MH} {L : List Nat} {x : Nat} : inM h (.int x) (.tup (nats L)) = some (decide (x ∈ L)) := by
  have : flatM (.int x) = true := rfl
  simp only [inM, flat_nats, this, Bool.and_self, if_true, any_nats]
theorem in_natsL {h : MH} {L : List Nat} {x a : Nat} (e : lsts h a = some (nats L)) : inM h (.int x) (.ref a) = some (decide (x ∈ L)) := by
  have : flatM (.int x) = true := rfl
  simp only [inM, e, flat_nats, this, Bool.and_self, if_true, any_nats]
  cases z : h[a]? with
  | none => rfl
  | some o =>
    cases o with
    | dct kvs => simp [lsts, z] at e
    | lst ys => rfl
    | fro ys => rfl
theorem it_rng {N : Nat} {y : MV} {h : MH} (hN : N ≤ 1000000000000) : itM .rng1 (.int (N : Int)) y h = some (.fix (nats (List.range N))) := by
  simp only [itM]
  rw [if_pos (by constructor <;> omega), Int.toNat_natCast, rng_nats]
theorem it_rng2 {N : Nat} {h : MH} (h1 : 1 ≤ N) (hN : N ≤ 1000000000000) : itM .rng2 (.int 1) (.int (N : Int)) h = some (.fix (nats (List.range' 1 (N - 1)))) := by
  simp only [itM]
  rw [if_pos (by omega), show ((N : Int) - 1).toNat = N - 1 by omega, rng1_nats]
theorem pow_small {k : Nat} (hk : k ≤ 39) : 2 ^ k ≤ 1000000000000 := Nat.le_trans (Nat.pow_le_pow_right (by decide) hk) (by decide +kernel)
theorem noRef_nats : ∀ L : List Nat, noRefs (nats L) = true
  | [] => rfl
  | p :: L => by simpa [nats, noRefs, noRef, nV] using noRef_nats L
theorem nats_len {L : List Nat} : (nats L).length = L.length := by simp [nats]
theorem nats_at {n i : Nat} {v : MV} (e : (nats (List.range n))[i]? = some v) : v = .int i ∧ i < n := by
  simp only [nats, List.getElem?_map, Option.map_eq_some_iff] at e
  obtain ⟨k, e1, e2⟩ := e
  have hk := (List.getElem?_eq_some_iff.mp e1)
  obtain ⟨hl, hk⟩ := hk
  simp at hk hl
  subst hk
  exact ⟨e2.symm, hl⟩
theorem bit_test (j k : Nat) : ((j : Int) / 2 ^ k % 2 == 1) = j.testBit k := by
  have h1 : (j : Int) / 2 ^ k % 2 = ((j / 2 ^ k % 2 : Nat) : Int) := by simp
  rw [h1, Nat.testBit_eq_decide_div_mod_eq]
  by_cases c : j / 2 ^ k % 2 = 1
  · simp [c]
  · have : j / 2 ^ k % 2 = 0 := by omega
    simp [this]
end Mn

set_option maxHeartbeats 1000000
/-! FeedF: the feed that is a dict of cells, at, left, turn (at 7, its cells at 6). -/
namespace Mn
open PySem L2
namespace FF
local macro_rules | `(tactic| walk_at "ev") => `(tactic| try simp only [bind_assoc, evSs, evS, evE, evEs, evTs, List.getElem?_cons_zero, List.getElem?_cons_succ, List.set_cons_succ, List.set_cons_zero, bind_val, asgT, asgTs, Option.map_some, Option.bind_some, ofO_some, ofB_some, bn_add, bn_sub, cm_eq, cm_ne, cm_lt, cm_le, cm_gt, cm_ge, tru_bl, tru_int, int_int, int_bl, len_tup, max_int, min_int])
def kC : Key := .inr "cells"
def kA : Key := .inr "at"
def kL : Key := .inr "left"
def kT : Key := .inr "turn"
def fd (a l t : Int) : MO := .dct [(kC, .ref 6), (kA, .int a), (kL, .int l), (kT, .int t)]
theorem k_cells : keyOf (.str "cells") = some kC := rfl
theorem k_at : keyOf (.str "at") = some kA := rfl
theorem k_left : keyOf (.str "left") = some kL := rfl
theorem k_turn : keyOf (.str "turn") = some kT := rfl
theorem nAC : kC ≠ kA := by decide +kernel
theorem nCL : kC ≠ kL := by decide +kernel
theorem nCT : kC ≠ kT := by decide +kernel
theorem nAL : kA ≠ kL := by decide +kernel
theorem nAT : kA ≠ kT := by decide +kernel
theorem nLT : kL ≠ kT := by decide +kernel
section
variable {h : MH} {a l t x : Int}
theorem ix_cells (e : h[7]? = some (fd a l t)) : ixM (.ref 7) (.str "cells") h = .ok (.ref 6) h := by
  simp [ixM, e, fd, k_cells, getK, ofO]
theorem ix_at (e : h[7]? = some (fd a l t)) : ixM (.ref 7) (.str "at") h = .ok (.int a) h := by
  simp [ixM, e, fd, k_at, getK, ofO, nAC]
theorem ix_left (e : h[7]? = some (fd a l t)) : ixM (.ref 7) (.str "left") h = .ok (.int l) h := by
  simp [ixM, e, fd, k_left, getK, ofO, nCL, nAL]
theorem ix_turn (e : h[7]? = some (fd a l t)) : ixM (.ref 7) (.str "turn") h = .ok (.int t) h := by
  simp [ixM, e, fd, k_turn, getK, ofO, nCT, nAT, nLT]
theorem set_at (e : h[7]? = some (fd a l t)) : setM (.ref 7) (.str "at") (.int x) h = some (h.set 7 (fd x l t)) := by
  simp [setM, e, fd, k_at, putK, nAC, nAL.symm, nAT.symm, lineM]
theorem set_left (e : h[7]? = some (fd a l t)) : setM (.ref 7) (.str "left") (.int x) h = some (h.set 7 (fd a x t)) := by
  simp [setM, e, fd, k_left, putK, nCL, nAL, nLT.symm, lineM]
theorem set_turn (e : h[7]? = some (fd a l t)) : setM (.ref 7) (.str "turn") (.int x) h = some (h.set 7 (fd a l x)) := by
  simp [setM, e, fd, k_turn, putK, nCT, nAT, nLT, lineM]
theorem at6 (e : h[7]? = some (fd a l t)) {o : MO} : (h.set 7 o)[7]? = some o := by
  rw [List.getElem?_set_self (List.getElem?_eq_some_iff.mp e).1]
theorem at5 {o : MO} : (h.set 7 o)[6]? = h[6]? := List.getElem?_set_ne (by decide)
end
/-- the feed stands -/
def Fd (h : MH) : Prop := ∃ a l t : Int, ∃ cs : List Int, h[7]? = some (fd a l t) ∧ h[6]? = some (.lst (cs.map .int)) ∧ cs ≠ [] ∧ cs.length ≤ 64 ∧ 0 ≤ a ∧ 0 ≤ l
/-- h2 is h up to k, but for the feed -/
def Ft (k : Nat) (h h2 : MH) : Prop := Fd h2 ∧ k ≤ h2.length ∧ ∀ i : Nat, i < k → i ≠ 7 → h2[i]? = h[i]?
def FS (h h2 : MH) : Prop := h2.length = h.length ∧ Ft h.length h h2
theorem Fd.lt {h : MH} (e : Fd h) : 7 < h.length := by
  obtain ⟨a, l, t, cs, e6, _⟩ := e
  exact (List.getElem?_eq_some_iff.mp e6).1
theorem FS.refl {h : MH} (e : Fd h) : FS h h := ⟨rfl, e, Nat.le_refl _, fun _ _ _ => rfl⟩
theorem Ft.refl {h : MH} (e : Fd h) : Ft h.length h h := ⟨e, Nat.le_refl _, fun _ _ _ => rfl⟩
theorem Ft.trans {h h2 h3 : MH} {k k2 : Nat} (e : Ft k h h2) (f : Ft k2 h2 h3) (l : k ≤ k2) : Ft k h h3 := ⟨f.1, Nat.le_trans l f.2.1, fun i hi n => (f.2.2 i (Nat.lt_of_lt_of_le hi l) n).trans (e.2.2 i hi n)⟩
theorem FS.trans {h h2 h3 : MH} (e : FS h h2) (f : FS h2 h3) : FS h h3 := ⟨f.1.trans e.1, e.2.trans f.2 (Nat.le_of_eq e.1.symm)⟩
theorem Ft.step {h h2 h3 : MH} {k : Nat} (e : Ft k h h2) (f : FS h2 h3) : Ft k h h3 := e.trans f.2 e.2.1
theorem Ft.app {h h2 J : MH} {k : Nat} (e : Ft k h h2) : Ft k h (h2 ++ J) := by
  obtain ⟨⟨a, l, t, cs, e6, e5, r⟩, e2, e3⟩ := e
  have l6 := (List.getElem?_eq_some_iff.mp e6).1
  have l5 := (List.getElem?_eq_some_iff.mp e5).1
  refine ⟨⟨a, l, t, cs, by rw [List.getElem?_append_left l6]; exact e6, by rw [List.getElem?_append_left l5]; exact e5, r⟩, by simp; omega, fun i hi n => ?_⟩
  rw [List.getElem?_append_left (by omega)]
  exact e3 i hi n
theorem Ft.set {h h2 : MH} {k b : Nat} {o : MO} (e : Ft k h h2) (l : k ≤ b) (l7 : 8 ≤ b) : Ft k h (h2.set b o) := by
  obtain ⟨⟨a, l, t, cs, e6, e5, r⟩, e2, e3⟩ := e
  refine ⟨⟨a, l, t, cs, by rw [List.getElem?_set_ne (by omega)]; exact e6, by rw [List.getElem?_set_ne (by omega)]; exact e5, r⟩, by simpa using e2, fun i hi n => ?_⟩
  rw [List.getElem?_set_ne (by omega)]
  exact e3 i hi n
theorem FS.trim {h h2 : MH} {v : MV} (e : noRef v = true) (hf : Fd h) (f : Ft h.length h h2) : Ev (trimM h v h2) fun v' h3 => v' = v ∧ FS h h3 := by
  have hl := hf.lt
  obtain ⟨⟨a, l, t, cs, e6, e5, r⟩, e2, e3⟩ := f
  refine .of (trim_take e e2 fun i hi => ?_) ⟨rfl, ?_, ⟨a, l, t, cs, ?_, ?_, r⟩, ?_, fun i hi n => ?_⟩
  · by_cases n : i = 7
    · subst n
      have : (6 : Nat) < h.length := by omega
      exact .inr ⟨_, e6, by simp [fd, MO.bel, bel, this]⟩
    · exact .inl (e3 i hi n)
  · simp; omega
  · rw [List.getElem?_take_of_lt hl]; exact e6
  · rw [List.getElem?_take_of_lt (by omega)]; exact e5
  · simp; omega
  · rw [List.getElem?_take_of_lt hi]; exact e3 i hi n
/-- a draw -/
def CallD (c : List MV → MH → R MV) : Prop := ∀ (h : MH) (m : Int), Fd h → 1 ≤ m → m < 1073741824 → Ev (c [.ref 7, .int m] h) fun v h2 => ∃ r : Int, v = .int r ∧ 0 ≤ r ∧ r < m ∧ FS h h2
def draw : List MS := [
  .asgSub (.var 0) (.c (.str "turn")) (.bin .Add (.ix (.var 0) (.c (.str "turn"))) (.c (.int 1))),
  .asg (.nm 2) (.ix (.var 0) (.c (.str "cells"))),
  .whl (.and_ (.cmp .Eq (.ix (.var 0) (.c (.str "left"))) (.c (.int 0))) (.cmp .Lt (.ix (.var 0) (.c (.str "at"))) (.blt .len [.var 2]))) [
    .asgSub (.var 0) (.c (.str "left")) (.bin .Mult (.ix (.var 2) (.ix (.var 0) (.c (.str "at")))) (.blt .int [.cmp .GtE (.ix (.var 2) (.ix (.var 0) (.c (.str "at")))) (.bin .Pow (.c (.int 10)) (.c (.int 18)))])),
    .asgSub (.var 0) (.c (.str "at")) (.bin .Add (.ix (.var 0) (.c (.str "at"))) (.c (.int 1)))],
  .ite (.cmp .Gt (.ix (.var 0) (.c (.str "left"))) (.c (.int 0))) [
    .asg (.nm 3) (.bin .Mod (.ix (.var 0) (.c (.str "left"))) (.var 1)),
    .asgSub (.var 0) (.c (.str "left")) (.bin .FloorDiv (.ix (.var 0) (.c (.str "left"))) (.var 1)),
    .ret (.var 3)] [],
  .asg (.nm 4) (.ix (.var 0) (.c (.str "turn"))),
  .asg (.nm 5) (.bin .Mod (.ix (.var 2) (.bin .Mod (.var 4) (.blt .len [.var 2]))) (.c (.int 2147483629))),
  .asg (.nm 6) (.bin .Mod (.bin .Mult (.bin .Add (.var 5) (.bin .Mult (.c (.int 1013)) (.var 4))) (.c (.int 48271))) (.c (.int 2147483647))),
  .asg (.nm 6) (.bin .Mod (.bin .Mult (.bin .Add (.bin .FloorDiv (.var 6) (.c (.int 13))) (.bin .Mult (.c (.int 37)) (.var 4))) (.c (.int 69621))) (.c (.int 2147483587))),
  .ret (.bin .Mod (.bin .FloorDiv (.var 6) (.c (.int 7))) (.var 1))]
theorem ix_lst {h : MH} {cs : List Int} {a : Nat} {i : Int} (e : h[a]? = some (.lst (cs.map .int))) (h0 : 0 ≤ i) (h1 : i < cs.length) : ∃ c, ixM (.ref a) (.int i) h = .ok (.int c) h := by
  obtain ⟨n, rfl⟩ := Int.eq_ofNat_of_zero_le h0
  have hn : n < cs.length := by omega
  refine ⟨cs[n], ?_⟩
  simp [ixM, e, lsts, atI, ixN, hn, ofO]
theorem draw_ok {M : Cm} {h : MH} {m : Int} (hf : Fd h) (hm : 1 ≤ m) (hm2 : m < 1073741824) (hW : 100 < M.fuel) :
    Ev (evSs M draw [some (.ref 7), some (.int m), none, none, none, none, none] h) fun fl h' => ∃ r : Int, fl = .ret (.int r) ∧ 0 ≤ r ∧ r < m ∧ FS h h' := by
  obtain ⟨a, l, t, cs, e6, e5, hcs, hlen, ha, hl⟩ := hf
  have nx : ∀ {a l t : Int}, 0 ≤ a → 0 ≤ l → FS h (h.set 7 (fd a l t)) := fun {a l t} ha hl => ⟨by simp, ⟨a, l, t, cs, at6 e6, by rw [at5]; exact e5, hcs, hlen, ha, hl⟩, by simp, fun i hi n => List.getElem?_set_ne (Ne.symm n)⟩
  have e6' := at6 e6 (o := fd a l (t + 1))
  have f5 : ∀ {a l t : Int}, (h.set 7 (fd a l t))[6]? = some (.lst (cs.map .int)) := by intros; rw [at5]; exact e5
  have f6 : ∀ {a l t : Int}, (h.set 7 (fd a l t))[7]? = some (fd a l t) := at6 e6
  have len5 : ∀ {a l t : Int}, bltM .len [.ref 6] (h.set 7 (fd a l t)) = .ok (.int cs.length) (h.set 7 (fd a l t)) := by intros; rw [len_ref f5]; simp
  have hc0 : (0 : Int) < cs.length := by have := List.length_pos_iff.mpr hcs; omega
  unfold draw
  simp only [evSs, evS, evE, List.getElem?_cons_zero, List.getElem?_cons_succ, bind_val, ix_turn e6, bn_add, set_turn e6, ix_cells f6, asgT, Option.map_some, ofO_some, List.set_cons_succ, List.set_cons_zero]
  refine .bind ((whl_ok (h := h.set 7 (fd a l (t + 1))) (k := (cs.length - a).toNat) (fun k σ h' => σ = [some (.ref 7), some (.int m), some (.ref 6), none, none, none, none] ∧ ∃ a l : Int, h' = h.set 7 (fd a l (t + 1)) ∧ 0 ≤ a ∧ 0 ≤ l ∧ k = ((cs.length : Int) - a).toNat)
    (fun σ h' => σ = [some (.ref 7), some (.int m), some (.ref 6), none, none, none, none] ∧ ∃ a l : Int, h' = h.set 7 (fd a l (t + 1)) ∧ 0 ≤ a ∧ 0 ≤ l) ⟨rfl, a, l, rfl, ha, hl, rfl⟩ ?_ M.fuel (by omega)).imp ?_)
  · rintro k σ h' ⟨rfl, a, l, rfl, ha, hl, rfl⟩
    simp only [List.getElem?_cons_zero, List.getElem?_cons_succ, bind_val, ix_left f6, cm_eq, ofB_some, tru_bl]
    by_cases c1 : l = 0
    · subst c1
      simp only [beq_self_eq_true, evEs, evE, List.getElem?_cons_zero, List.getElem?_cons_succ, bind_val, ix_at f6, len5, cm_lt, ofB_some]
      refine .ok ?_
      by_cases c2 : a < cs.length
      · refine .inr ⟨by simp [truth, c2], ?_⟩
        obtain ⟨c, hc⟩ := ix_lst (f5 (a := a) (l := 0) (t := t + 1)) ha c2
        have hb : ∀ b : Bool, (c.natAbs < 2 ^ 64 ∨ (if b = true then (1 : Int) else 0).natAbs < 2 ^ 64) := fun b => by cases b <;> (right; decide)
        simp only [evSs, evS, evE, evEs, List.getElem?_cons_zero, List.getElem?_cons_succ, bind_val, ix_at f6, hc, bn_pow (show (0 : Int) ≤ 18 ∧ (18 : Int) ≤ 1000000 ∧ (10 : Int).natAbs < 2 ^ 64 by decide), cm_ge, ofB_some, int_bl, bn_mul (hb _), set_left f6]
        generalize hx : c * (if decide ((10 : Int) ^ Int.toNat 18 ≤ c) = true then 1 else 0) = x
        have hx0 : 0 ≤ x := by
          subst hx
          split
          · rename_i z
            have : (10 : Int) ^ Int.toNat 18 ≤ c := by simpa using z
            have h18 : (0 : Int) ≤ 10 ^ Int.toNat 18 := by decide
            omega
          · omega
        simp only [List.set_set, ix_at f6, bind_val, bn_add, set_at f6]
        exact .ok ⟨_, rfl, ((cs.length : Int) - (a + 1)).toNat, by omega, rfl, a + 1, x, rfl, by omega, hx0, rfl⟩
      · exact .inl ⟨by simp [truth, c2], by first | rfl | trivial, a, 0, rfl, ha, Int.le_refl _⟩
    · have : (l == 0) = false := by simpa using c1
      simp only [this]
      exact .ok (.inl ⟨rfl, by first | rfl | trivial, a, l, rfl, ha, hl⟩)
  · rintro fl h' ⟨σ', rfl, rfl, a, l, rfl, ha, hl⟩
    simp only [evSs, evS, evE, List.getElem?_cons_zero, List.getElem?_cons_succ, bind_val, ix_left f6, cm_gt, ofB_some, tru_bl]
    by_cases c1 : 0 < l
    · simp only [c1, decide_true, evSs, evS, evE, List.getElem?_cons_zero, List.getElem?_cons_succ, bind_val, ix_left f6, bn_mod (show (0 : Int) < m by omega), bn_div (show (0 : Int) < m ∧ m < 1073741824 by omega), asgT, Option.map_some, ofO_some, List.set_cons_succ, List.set_cons_zero, set_left f6, List.set_set]
      exact .ok ⟨_, rfl, Int.emod_nonneg _ (by omega), Int.emod_lt_of_pos _ (by omega), nx ha (Int.ediv_nonneg hl (by omega))⟩
    · obtain ⟨c, hc⟩ := ix_lst (f5 (a := a) (l := l) (t := t + 1)) (i := (t + 1) % cs.length) (Int.emod_nonneg _ (by omega)) (Int.emod_lt_of_pos _ hc0)
      simp only [c1, decide_false, evSs, evS, evE, evEs, List.getElem?_cons_zero, List.getElem?_cons_succ, bind_val, ix_turn f6, asgT, Option.map_some, ofO_some, List.set_cons_succ, List.set_cons_zero, len5, bn_mod hc0, hc,
        bn_mod (show (0 : Int) < 2147483629 by decide), bn_mod (show (0 : Int) < 2147483647 by decide), bn_mod (show (0 : Int) < 2147483587 by decide), bn_mul (show (1013 : Int).natAbs < 2 ^ 64 ∨ (t + 1).natAbs < 2 ^ 64 from .inl (by decide)),
        bn_mul (show (37 : Int).natAbs < 2 ^ 64 ∨ (t + 1).natAbs < 2 ^ 64 from .inl (by decide)), bn_mul (j := 48271) (.inr (by decide)), bn_mul (j := 69621) (.inr (by decide)), bn_add, bn_div (show (0 : Int) < 13 ∧ (13 : Int) < 1073741824 by decide),
        bn_div (show (0 : Int) < 7 ∧ (7 : Int) < 1073741824 by decide), bn_mod (show (0 : Int) < m by omega)]
      exact .ok ⟨_, rfl, Int.emod_nonneg _ (by omega), Int.emod_lt_of_pos _ (by omega), nx ha hl⟩
theorem draw_call {Γ : Str → Option FD} {gl : Str → Option MV} {W d : Nat} {f : Str} (g : Γ f = some ⟨2, 7, draw⟩) (hW : 100 < W) : CallD (runF Γ gl W (d + 1) f) := by
  intro h m hf h1 h2
  refine run_ev g rfl ((draw_ok hf h1 h2 hW).imp ?_)
  rintro fl h' ⟨r, rfl, r0, r1, fs⟩
  exact (FS.trim rfl hf fs.2).imp fun v h3 ⟨e, q⟩ => ⟨r, e, r0, r1, q⟩
def price : List MS := [
  .ret (.ix (.lst [.c (.int 0), .c (.int 1), .c (.int 2), .c (.int 3), .bin .Add (.c (.int 1)) (.call "_law_draw" [.var 0, .c (.int 9)]), .call "_law_draw" [.var 0, .c (.int 100)]]) (.call "_law_draw" [.var 0, .c (.int 6)]))]
def CallP (c : List MV → MH → R MV) : Prop := ∀ h : MH, Fd h → Ev (c [.ref 7] h) fun v h2 => ∃ r : Nat, v = .int r ∧ r < 100 ∧ FS h h2
theorem price_ok {M : Cm} {h : MH} (hf : Fd h) (c : CallD (M.call "_law_draw")) :
    Ev (evSs M price [some (.ref 7)] h) fun fl h' => ∃ r : Nat, fl = .ret (.int r) ∧ r < 100 ∧ Ft h.length h h' := by
  unfold price
  walk_at "ev"
  refine .bind ((c h 9 hf (by decide) (by decide)).imp ?_)
  rintro _ h1 ⟨r1, rfl, a1, b1, f1⟩
  walk_at "ev"
  refine .bind ((c h1 100 f1.2.1 (by decide) (by decide)).imp ?_)
  rintro _ h2 ⟨r2, rfl, a2, b2, f2⟩
  walk_at "ev"
  simp only [newO, bind_val]
  have f3 := f1.trans f2
  have f4 : Ft h.length h (h2 ++ [.lst [.int 0, .int 1, .int 2, .int 3, .int (1 + r1), .int r2]]) := f3.2.app
  refine .bind ((c _ 6 f4.1 (by decide) (by decide)).imp ?_)
  rintro _ h5 ⟨r3, rfl, a3, b3, f5⟩
  have e : h5[h2.length]? = some (.lst [.int 0, .int 1, .int 2, .int 3, .int (1 + r1), .int r2]) := by
    rw [f5.2.2.2 _ (by simp) (by have := f2.2.1.lt; omega)]; simp
  have ix : ∀ k : Nat, k < 6 → Ev (ixM (.ref h2.length) (.int (k : Int)) h5) fun v h' => ∃ r : Nat, v = .int r ∧ r < 100 ∧ h' = h5 := by
    intro k hk
    match k, hk with
    | 0, _ => exact .of (ix_ref (lsts_lst e) rfl) ⟨0, rfl, by decide, rfl⟩
    | 1, _ => exact .of (ix_ref (lsts_lst e) rfl) ⟨1, rfl, by decide, rfl⟩
    | 2, _ => exact .of (ix_ref (lsts_lst e) rfl) ⟨2, rfl, by decide, rfl⟩
    | 3, _ => exact .of (ix_ref (lsts_lst e) rfl) ⟨3, rfl, by decide, rfl⟩
    | 4, _ => exact .of (ix_ref (lsts_lst e) rfl) ⟨(1 + r1).toNat, by congr 1; omega, by omega, rfl⟩
    | 5, _ => exact .of (ix_ref (lsts_lst e) rfl) ⟨r2.toNat, by congr 1; omega, by omega, rfl⟩
  have := ix r3.toNat (by omega)
  rw [show ((r3.toNat : Nat) : Int) = r3 by omega] at this
  refine .bind (this.imp ?_)
  rintro _ _ ⟨r, rfl, hr, rfl⟩
  exact .ok ⟨r, rfl, hr, f4.step f5⟩
theorem price_call {Γ : Str → Option FD} {gl : Str → Option MV} {W d : Nat} {f : Str} (g : Γ f = some ⟨1, 1, price⟩) (c : CallD (runF Γ gl W d "_law_draw")) : CallP (runF Γ gl W (d + 1) f) := by
  intro h hf
  refine run_ev g rfl ((price_ok hf c).imp ?_)
  rintro fl h' ⟨r, rfl, r1, fs⟩
  exact (FS.trim rfl hf fs).imp fun v h3 ⟨e, q⟩ => ⟨r, e, r1, q⟩
/-! the feed, made from the script -/
def feed : List MS := [
  .ret (.dsp [.c (.str "cells"), .bin .Add (.blt .list [.slH (.var 0) (.c (.int 63))]) (.bin .Mult (.lst [.c (.int 0)]) (.blt .int [.cmp .Eq (.var 0) (.lst [])])), .c (.str "at"), .c (.int 0), .c (.str "left"), .c (.int 0), .c (.str "turn"), .c (.int 0)])]
/-- the heap behind the feed -/
def heap0 (ns : List Int) : MH := [.fro (ns.map .int), .lst (ns.map .int), .lst (ns.map .int), .lst [.int 0], .lst [], .lst (if ns = [] then [.int 0] else []), .lst ((if ns = [] then [0] else ns).map .int), fd 0 0 0]
theorem trs_ints : ∀ ns : List Int, trs (ns.map .int) = ns.map .int
  | [] => rfl
  | n :: ns => by simp [trs, tr, trs_ints ns]
theorem noRef_ints : ∀ ns : List Int, noRefs (ns.map .int) = true
  | [] => rfl
  | n :: ns => by simp [noRefs, noRef, noRef_ints ns]
theorem lay_ints : ∀ ns : List Int, PyData.canLayAll0 (ns.map .int) = true ∧ PyData.depthAll (ns.map .int) = 0
  | [] => ⟨rfl, rfl⟩
  | n :: ns => by simp [PyData.canLayAll0, PyData.canLay0, PyData.depthAll, PyData.depth, lay_ints ns]
theorem shp_ints (ns : List Int) : shp (.list (ns.map .int)) = true := by
  simp [shp, SeqAt.shaped, PyData.canLay0, PyData.depth, lay_ints ns]
theorem eq_ints {h : MH} {a b : Nat} {xs ys : List Int} (e1 : lsts h a = some (xs.map .int)) (e2 : lsts h b = some (ys.map .int)) : eqM h (.ref a) (.ref b) = some (decide (xs = ys)) := by
  have e : ∀ xs ys : List Int, PyData.eqvAll (xs.map .int) (ys.map .int) = decide (xs = ys) := by
    intro xs
    induction xs with
    | nil => intro ys; cases ys <;> simp [PyData.eqvAll]
    | cons x xs ih => intro ys; cases ys with
      | nil => simp [PyData.eqvAll]
      | cons y ys => simp only [List.map_cons, PyData.eqvAll, PyData.eqv, ih, List.cons.injEq]; rw [Bool.decide_and]; congr 1
  simp only [eqM, strOf, eqD, snap_lst e1 (noRef_ints xs), snap_lst e2 (noRef_ints ys), trs_ints, shp_ints, Bool.and_self, if_true, PyData.eqv, e]
theorem feed_call {Γ : Str → Option FD} {gl : Str → Option MV} {W d : Nat} {f : Str} (g : Γ f = some ⟨1, 1, feed⟩) {ns : List Int} (hn : ns.length ≤ 63) :
    runF Γ gl W (d + 1) f [.ref 0] [.fro (ns.map .int)] = .ok (.ref 7) (heap0 ns) := by
  rw [runF_succ g rfl]
  simp only [feed, List.map_cons, List.map_nil, List.replicate, List.cons_append, List.nil_append]
  walk_at "ev"
  have c1 : cutM (ns.map .int) none (some 63) = ns.map .int := by
    have := HT.sIx_nat (ns.map MV.int).length (ns.map MV.int).length 63
    simp only [cutM, HT.sIx_none, List.drop_zero, Nat.sub_zero]
    rw [show (63 : Int) = ((63 : Nat) : Int) from rfl, this]
    refine List.take_of_length_le ?_
    simp
    omega
  have s1 : slM (.ref 0) none (some 63) [.fro (ns.map .int)] = .ok (.ref 1) [.fro (ns.map .int), .lst (ns.map .int)] := by
    simp only [slM]
    rw [show lsts [.fro (ns.map .int)] 0 = some (ns.map .int) from rfl]
    simp only [c1]
    rfl
  simp only [s1, bind_val]
  have s2 : bltM .list [.ref 1] [.fro (ns.map .int), .lst (ns.map .int)] = .ok (.ref 2) [.fro (ns.map .int), .lst (ns.map .int), .lst (ns.map .int)] := lst_ref rfl
  simp only [s2, bind_val]
  have s3 : newO (.lst [.int 0]) [.fro (ns.map .int), .lst (ns.map .int), .lst (ns.map .int)] = .ok (.ref 3) [.fro (ns.map .int), .lst (ns.map .int), .lst (ns.map .int), .lst [.int 0]] := rfl
  simp only [s3, bind_val]
  have s4 : newO (.lst []) [.fro (ns.map .int), .lst (ns.map .int), .lst (ns.map .int), .lst [.int 0]] = .ok (.ref 4) [.fro (ns.map .int), .lst (ns.map .int), .lst (ns.map .int), .lst [.int 0], .lst []] := rfl
  simp only [s4, bind_val]
  have s5 : cmpM .Eq (.ref 0) (.ref 4) [.fro (ns.map .int), .lst (ns.map .int), .lst (ns.map .int), .lst [.int 0], .lst []] = some (decide (ns = [])) := by
    simp only [cmpM]
    exact eq_ints (ys := []) rfl rfl
  simp only [s5, ofB_some, bind_val, int_bl]
  have s6 : binM .Mult (.ref 3) (.int (if decide (ns = []) = true then 1 else 0)) [.fro (ns.map .int), .lst (ns.map .int), .lst (ns.map .int), .lst [.int 0], .lst []] = .ok (.ref 5) [.fro (ns.map .int), .lst (ns.map .int), .lst (ns.map .int), .lst [.int 0], .lst [], .lst (if ns = [] then [.int 0] else [])] := by
    rw [bn_mulL (xs := [.int 0]) rfl (by split <;> simp [lineM])]
    by_cases c : ns = [] <;> simp [c]
  simp only [s6, bind_val]
  have s7 : binM .Add (.ref 2) (.ref 5) [.fro (ns.map .int), .lst (ns.map .int), .lst (ns.map .int), .lst [.int 0], .lst [], .lst (if ns = [] then [.int 0] else [])] = .ok (.ref 6) [.fro (ns.map .int), .lst (ns.map .int), .lst (ns.map .int), .lst [.int 0], .lst [], .lst (if ns = [] then [.int 0] else []), .lst ((if ns = [] then [0] else ns).map .int)] := by
    rw [bn_addL rfl rfl (by simp [lineM]; split <;> simp <;> omega)]
    by_cases c : ns = [] <;> simp [c]
  simp only [s7, bind_val]
  have s8 : pairUp [.str "cells", .ref 6, .str "at", .int 0, .str "left", .int 0, .str "turn", .int 0] = some [(kC, .ref 6), (kA, .int 0), (kL, .int 0), (kT, .int 0)] := by
    simp [pairUp, k_cells, k_at, k_left, k_turn]
  have s9 : ([(kC, .ref 6), (kA, .int 0), (kL, .int 0), (kT, .int 0)] : List (Key × MV)).foldl (fun acc kv => putK kv.1 kv.2 acc) [] = [(kC, .ref 6), (kA, .int 0), (kL, .int 0), (kT, .int 0)] := by
    simp [putK, nAC, nCL, nCT, nAL, nAT, nLT]
  simp only [s8, s9]
  have s10 : newO (.dct [(kC, .ref 6), (kA, .int 0), (kL, .int 0), (kT, .int 0)]) [.fro (ns.map .int), .lst (ns.map .int), .lst (ns.map .int), .lst [.int 0], .lst [], .lst (if ns = [] then [.int 0] else []), .lst ((if ns = [] then [0] else ns).map .int)] = .ok (.ref 7) (heap0 ns) := rfl
  simp only [s10, bind_val, finM]
  have s11 : (heap0 ns)[7]? = some (fd 0 0 0) := rfl
  unfold trimM
  have s12 : noRef (.ref 7) = false := rfl
  simp only [s12, s11, fd]
  repeat' split
  all_goals first | rfl | contradiction
theorem feed_stands {ns : List Int} (hn : ns.length ≤ 63) : Fd (heap0 ns) :=
  ⟨0, 0, 0, if ns = [] then [0] else ns, rfl, rfl, by split <;> simp_all, by split <;> first | omega | simp, Int.le_refl _, Int.le_refl _⟩
def tieV (t : Nat × Nat × Nat) : MV := .tup [.int t.1, .int t.2.1, .int t.2.2]
def webV (n : Nat) (ts : List (Nat × Nat × Nat)) : MV := .tup [.int n, .tup (ts.map tieV)]
def tieOk (n : Nat) (t : Nat × Nat × Nat) : Prop := t.1 < t.2.1 ∧ t.2.1 < n ∧ t.2.2 < 100
theorem noRef_ties : ∀ ts : List (Nat × Nat × Nat), noRefs (ts.map tieV) = true
  | [] => rfl
  | t :: ts => by simp [noRefs, noRef, tieV, noRef_ties ts]
theorem noRef_web {n : Nat} {ts : List (Nat × Nat × Nat)} : noRef (webV n ts) = true := by simp [webV, noRef, noRefs, noRef_ties]
def CallW (c : List MV → MH → R MV) : Prop := ∀ (h : MH) (p m : Nat), Fd h → 1 ≤ p → p < 1000 → m < 1000 → Ev (c [.ref 7, .int p, .int m] h) fun v h2 => ∃ n ts, v = webV n ts ∧ 1 ≤ n ∧ n ≤ p ∧ ts.length ≤ m ∧ (∀ t ∈ ts, tieOk n t) ∧ FS h h2
def web : List MS := [
  .asg (.nm 3) (.bin .Add (.c (.int 1)) (.call "_law_draw" [.var 0, .var 1])),
  .asg (.nm 4) (.lst []),
  .for_ (.nm 5) .rng1 (.bin .Mult (.call "_law_draw" [.var 0, .bin .Add (.var 2) (.c (.int 1))]) (.blt .int [.cmp .Gt (.var 3) (.c (.int 1))])) (.c .non) [
    .asg (.nm 6) (.call "_law_draw" [.var 0, .var 3]),
    .asg (.nm 7) (.bin .Mod (.bin .Add (.bin .Add (.var 6) (.c (.int 1))) (.call "_law_draw" [.var 0, .bin .Sub (.var 3) (.c (.int 1))])) (.var 3)),
    .expr (.meth .append (.var 4) [.tup [.blt .min [.var 6, .var 7], .blt .max [.var 6, .var 7], .call "_law_price" [.var 0]]])],
  .ret (.tup [.var 3, .blt .tuple [.var 4]])]
theorem other_ne {n a r : Int} (a0 : 0 ≤ a) (an : a < n) (r0 : 0 ≤ r) (rn : r < n - 1) : 0 ≤ (a + 1 + r) % n ∧ (a + 1 + r) % n < n ∧ (a + 1 + r) % n ≠ a := by
  by_cases c : a + 1 + r < n
  · rw [Int.emod_eq_of_lt (by omega) c]; omega
  · have : (a + 1 + r) % n = a + 1 + r - n := by
      have e : a + 1 + r = (a + 1 + r - n) + n := by omega
      rw [e, Int.add_emod_right, Int.emod_eq_of_lt (by omega) (by omega)]
      omega
    omega
theorem web_ok {M : Cm} {h : MH} {p m : Nat} (hf : Fd h) (hp : 1 ≤ p) (hp2 : p < 1000) (hm : m < 1000) (c : CallD (M.call "_law_draw")) (cp : CallP (M.call "_law_price")) :
    Ev (evSs M web [some (.ref 7), some (.int p), some (.int m), none, none, none, none, none] h) fun fl h' => ∃ n ts, fl = .ret (webV n ts) ∧ 1 ≤ n ∧ n ≤ p ∧ ts.length ≤ m ∧ (∀ t ∈ ts, tieOk n t) ∧ Ft h.length h h' := by
  unfold web
  walk_at "ev"
  refine .bind ((c h p hf (by omega) (by omega)).imp ?_)
  rintro _ h1 ⟨r1, rfl, a1, b1, f1⟩
  obtain ⟨n, hn⟩ : ∃ n : Nat, (n : Int) = 1 + r1 := ⟨(1 + r1).toNat, by omega⟩
  have hl : h1.length = h.length := f1.1
  have h7 := hf.lt
  walk_at "ev"
  simp only [newO, ← hn]
  walk_at "ev"
  have f2 : Ft h.length h (h1 ++ [.lst []]) := f1.2.app
  refine .bind ((c _ (m + 1) f2.1 (by omega) (by omega)).imp ?_)
  rintro _ h2 ⟨r2, rfl, a2, b2, f3⟩
  have e3 : h2[h1.length]? = some (.lst []) := by rw [f3.2.2.2 _ (by simp) (by omega)]; simp
  have f4 := f2.step f3
  walk_at "ev"
  rw [bn_mul (.inr (by split <;> decide))]
  generalize hk : r2 * (if decide ((1 : Int) < n) = true then 1 else 0) = k
  have k0 : 0 ≤ k := by subst hk; split <;> omega
  have k1 : k ≤ m := by subst hk; split <;> omega
  have k2 : 0 < k → 1 < n := by subst hk; split <;> rename_i z <;> simp at z <;> omega
  walk_at "ev"
  have ei : itM .rng1 (.int k) .non h2 = some (.fix (rngI 0 k.toNat)) := by simp only [itM]; rw [if_pos (by omega)]
  simp only [ei, It.items]
  have hlen : (rngI 0 k.toNat).length = k.toNat := by simp [rngI]
  refine .bind ((for_fix (fun i σ h' => ∃ ts x5 x6 x7, σ = [some (.ref 7), some (.int p), some (.int m), some (.int n), some (.ref h1.length), x5, x6, x7] ∧ ts.length = i ∧ (∀ t ∈ ts, tieOk n t) ∧ Ft h.length h h' ∧ h'[h1.length]? = some (.lst (ts.map tieV)))
    ⟨[], none, none, none, rfl, rfl, by simp, f4, e3⟩ ?_).imp ?_)
  · rintro i v σ h' hi ⟨ts, x5, x6, x7, rfl, rfl, ok, ft, e⟩
    have hi' : ts.length < k.toNat := by rw [← hlen]; exact (List.getElem?_eq_some_iff.mp hi).1
    have n1 : 1 < n := k2 (by omega)
    have bl : h1.length < h'.length := (List.getElem?_eq_some_iff.mp e).1
    simp only [forStep]
    walk_at "ev"
    refine .bind ((c _ n ft.1 (by omega) (by omega)).imp ?_)
    rintro _ h3 ⟨r3, rfl, a3, b3, f5⟩
    walk_at "ev"
    refine .bind ((c _ (n - 1) f5.2.1 (by omega) (by omega)).imp ?_)
    rintro _ h4 ⟨r4, rfl, a4, b4, f6⟩
    have f7 := f5.trans f6
    have e4 : h4[h1.length]? = some (.lst (ts.map tieV)) := by rw [f7.2.2.2 _ bl (by omega)]; exact e
    obtain ⟨o1, o2, o3⟩ := other_ne a3 b3 a4 b4
    walk_at "ev"
    rw [bn_mod (by omega)]
    walk_at "ev"
    simp only [kd_lst e4]
    walk_at "ev"
    generalize (r3 + 1 + r4) % (n : Int) = r5 at o1 o2 o3
    refine .bind ((cp _ f6.2.1).imp ?_)
    rintro _ h5 ⟨r6, rfl, b6, f8⟩
    have f9 := f7.trans f8
    have e5 : h5[h1.length]? = some (.lst (ts.map tieV)) := by rw [f9.2.2.2 _ bl (by omega)]; exact e
    walk_at "ev"
    rw [app_meth e5 rfl (by simp [lineM]; omega)]
    walk_at "ev"
    refine .ok ⟨_, rfl, ts ++ [((if r5 < r3 then r5 else r3).toNat, (if r5 > r3 then r5 else r3).toNat, r6)], _, _, _, rfl, by simp, ?_, (ft.step f9).set (by omega) (by omega), ?_⟩
    · intro t ht
      rcases List.mem_append.mp ht with z | z
      · exact ok t z
      · simp at z
        subst z
        refine ⟨?_, ?_, b6⟩
        all_goals
          dsimp only
          (repeat' split) <;> omega
    · rw [List.getElem?_set_self (by rw [f9.1]; exact bl)]
      simp only [List.map_append, List.map_cons, List.map_nil, tieV]
      rw [show (((if r5 < r3 then r5 else r3).toNat : Nat) : Int) = (if r5 < r3 then r5 else r3) by split <;> omega, show (((if r5 > r3 then r5 else r3).toNat : Nat) : Int) = (if r5 > r3 then r5 else r3) by split <;> omega]
  · rintro fl h' ⟨_, rfl, ts, x5, x6, x7, rfl, hl2, ok, ft, e⟩
    walk_at "ev"
    rw [tup_ref (lsts_lst e)]
    walk_at "ev"
    exact .ok ⟨n, ts, rfl, by omega, by omega, by omega, ok, ft⟩
theorem web_call {Γ : Str → Option FD} {gl : Str → Option MV} {W d : Nat} {f : Str} (g : Γ f = some ⟨3, 8, web⟩) (c : CallD (runF Γ gl W d "_law_draw")) (cp : CallP (runF Γ gl W d "_law_price")) : CallW (runF Γ gl W (d + 1) f) := by
  intro h p m hf h1 h2 h3
  refine run_ev g rfl ((web_ok hf h1 h2 h3 c cp).imp ?_)
  rintro fl h' ⟨n, ts, rfl, r1, r2, r3, r4, fs⟩
  exact (FS.trim noRef_web hf fs).imp fun v h3 ⟨e, q⟩ => ⟨n, ts, e, r1, r2, r3, r4, q⟩
end FF
end Mn

set_option maxHeartbeats 1000000
/-! Cut: weights of cuts, the most weighty side. -/
namespace Mn
open PySem L2
namespace FF
local macro_rules | `(tactic| walk_at "ev") => `(tactic| try simp only [bind_assoc, evSs, evS, evE, evEs, evTs, List.getElem?_cons_zero, List.getElem?_cons_succ, List.set_cons_succ, List.set_cons_zero, bind_val, asgT, asgTs, Option.map_some, Option.bind_some, ofO_some, ofB_some, bn_add, bn_sub, cm_eq, cm_ne, cm_lt, cm_le, cm_gt, cm_ge, tru_bl, tru_int, int_int, int_bl, len_tup, max_int, min_int])
def cutW (ts : List (Nat × Nat × Nat)) (q : Nat → Bool) : Int := ((ts.filter fun t => q t.1 != q t.2.1).map fun t => (t.2.2 : Int)).sum
def weight : List MS := [
  .ret (.blt .sum [.lc (.ix (.var 2) (.c (.int 2))) (.nm 2) .val (.ix (.var 0) (.c (.int 1))) (.c .non) [.cmp .NotEq (.cmp .In (.ix (.var 2) (.c (.int 0))) (.var 1)) (.cmp .In (.ix (.var 2) (.c (.int 1))) (.var 1))] [2]])]
theorem web_0 {n : Nat} {ts : List (Nat × Nat × Nat)} {h : MH} : ixM (webV n ts) (.int 0) h = .ok (.int n) h := ix_tup (k := 0) rfl
theorem web_1 {n : Nat} {ts : List (Nat × Nat × Nat)} {h : MH} : ixM (webV n ts) (.int 1) h = .ok (.tup (ts.map tieV)) h := ix_tup (k := 1) rfl
theorem tie_0 {t : Nat × Nat × Nat} {h : MH} : ixM (tieV t) (.int 0) h = .ok (.int t.1) h := ix_tup (k := 0) rfl
theorem tie_1 {t : Nat × Nat × Nat} {h : MH} : ixM (tieV t) (.int 1) h = .ok (.int t.2.1) h := ix_tup (k := 1) rfl
theorem tie_2 {t : Nat × Nat × Nat} {h : MH} : ixM (tieV t) (.int 2) h = .ok (.int t.2.2) h := ix_tup (k := 2) rfl
def CallWt (c : List MV → MH → R MV) : Prop := ∀ (h : MH) (n : Nat) (ts : List (Nat × Nat × Nat)) (sv : MV) (q : Nat → Bool), (∀ x : Nat, inM h (.int x) sv = some (q x)) → ts.length ≤ lineM → c [webV n ts, sv] h = .ok (.int (cutW ts q)) h
theorem ints_map {ts : List (Nat × Nat × Nat)} : allInts (ts.map fun t => MV.int (t.2.2 : Int)) = some (ts.map fun t => (t.2.2 : Int)) := by
  have := allInts_map (ts.map fun t => (t.2.2 : Int))
  rw [List.map_map] at this
  exact this
theorem weight_call {Γ : Str → Option FD} {gl : Str → Option MV} {W d : Nat} {f : Str} (g : Γ f = some ⟨2, 3, weight⟩) : CallWt (runF Γ gl W (d + 1) f) := by
  intro h n ts sv q hq hl
  rw [runF_succ g rfl]
  simp only [weight, List.map_cons, List.map_nil, List.replicate, List.cons_append, List.nil_append]
  walk_at "ev"
  simp only [web_1, bind_val, itM, It.items]
  rw [comp_map (f := tieV) (g := fun t => if q t.1 != q t.2.1 then some (.int (t.2.2 : Int)) else none) ?_ hl]
  · have e : (ts.filterMap fun t => if (q t.1 != q t.2.1) = true then some (MV.int (t.2.2 : Int)) else none) = (ts.filter fun t => q t.1 != q t.2.1).map fun t => MV.int (t.2.2 : Int) := by
      clear hl
      induction ts with
      | nil => rfl
      | cons t ts ih =>
        by_cases c : (q t.1 != q t.2.1) = true
        · have l : (t :: ts).filterMap (fun t => if (q t.1 != q t.2.1) = true then some (MV.int (t.2.2 : Int)) else none) = MV.int (t.2.2 : Int) :: ts.filterMap (fun t => if (q t.1 != q t.2.1) = true then some (MV.int (t.2.2 : Int)) else none) := List.filterMap_cons_some (if_pos c)
          have r : (t :: ts).filter (fun t => q t.1 != q t.2.1) = t :: ts.filter (fun t => q t.1 != q t.2.1) := List.filter_cons_of_pos c
          rw [l, r, ih]; rfl
        · have l : (t :: ts).filterMap (fun t => if (q t.1 != q t.2.1) = true then some (MV.int (t.2.2 : Int)) else none) = ts.filterMap (fun t => if (q t.1 != q t.2.1) = true then some (MV.int (t.2.2 : Int)) else none) := List.filterMap_cons_none (if_neg c)
          have r : (t :: ts).filter (fun t => q t.1 != q t.2.1) = ts.filter (fun t => q t.1 != q t.2.1) := List.filter_cons_of_neg c
          rw [l, r, ih]
    simp only [e, newO]
    walk_at "ev"
    rw [sum_ref lsts_new ints_map]
    simp only [bind_val, finM]
    rw [trim_app rfl]
    rfl
  · intro t _
    simp only [lcStep, wipeM, asgT, evTs, evE, List.getElem?_cons_zero, List.getElem?_cons_succ, List.set_cons_succ, List.set_cons_zero, bind_val, tie_0, tie_1, tie_2, cm_in, hq, ofB_some, cm_neB, tru_bl]
    cases q t.1 <;> cases q t.2.1 <;> rfl
def sideOf (n j : Nat) : List Nat := (List.range' 1 (n - 1)).filter fun p => j.testBit (p - 1)
def sideAll (n j : Nat) : List Nat := (List.range n).filter fun p => j.testBit p
def W (ts : List (Nat × Nat × Nat)) (k : Nat) : Int := cutW ts k.testBit
theorem cutW_congr {ts : List (Nat × Nat × Nat)} {q q' : Nat → Bool} (e : ∀ t ∈ ts, (q t.1 != q t.2.1) = (q' t.1 != q' t.2.1)) : cutW ts q = cutW ts q' := by
  unfold cutW
  rw [List.filter_congr e]
theorem cut_all {n j : Nat} {ts : List (Nat × Nat × Nat)} (ok : ∀ t ∈ ts, tieOk n t) : cutW ts (fun x => decide (x ∈ sideAll n j)) = W ts j := by
  refine cutW_congr fun t ht => ?_
  obtain ⟨h1, h2, _⟩ := ok t ht
  have z : ∀ x, x < n → decide (x ∈ sideAll n j) = j.testBit x := fun x hx => by simp [sideAll, hx]
  rw [z _ (by omega), z _ h2]
theorem cut_of {n j : Nat} {ts : List (Nat × Nat × Nat)} (ok : ∀ t ∈ ts, tieOk n t) : cutW ts (fun x => decide (x ∈ sideOf n j)) = W ts (2 * j) := by
  refine cutW_congr fun t ht => ?_
  obtain ⟨h1, h2, _⟩ := ok t ht
  have z : ∀ x, x < n → decide (x ∈ sideOf n j) = (2 * j).testBit x := fun x hx => by
    cases x with
    | zero => simp [sideOf]
    | succ x => simp [sideOf, Nat.testBit_succ]; omega
  rw [z _ (by omega), z _ h2]
theorem W_zero {ts : List (Nat × Nat × Nat)} : W ts 0 = 0 := by
  have : (ts.filter fun t => Nat.testBit 0 t.1 != Nat.testBit 0 t.2.1) = [] := by simp
  unfold W cutW
  rw [this]
  rfl
theorem W_half {n j : Nat} {ts : List (Nat × Nat × Nat)} (hn : 1 ≤ n) (ok : ∀ t ∈ ts, tieOk n t) (hj : j < 2 ^ n) : ∃ k, k < 2 ^ (n - 1) ∧ W ts j = W ts (2 * k) := by
  have e2 : 2 ^ n = 2 * 2 ^ (n - 1) := by
    obtain ⟨m, rfl⟩ : ∃ m, n = m + 1 := ⟨n - 1, by omega⟩
    simp [Nat.pow_succ]; omega
  by_cases c : j % 2 = 0
  · exact ⟨j / 2, by omega, by rw [show 2 * (j / 2) = j by omega]⟩
  · refine ⟨(2 ^ n - (j + 1)) / 2, by omega, ?_⟩
    rw [show 2 * ((2 ^ n - (j + 1)) / 2) = 2 ^ n - (j + 1) by omega]
    refine cutW_congr fun t ht => ?_
    obtain ⟨h1, h2, _⟩ := ok t ht
    have h3 : t.1 < n := by omega
    rw [Nat.testBit_two_pow_sub_succ hj, Nat.testBit_two_pow_sub_succ hj]
    simp only [h2, h3, decide_true, Bool.true_and]
    cases j.testBit t.1 <;> cases j.testBit t.2.1 <;> rfl
/-- the side found after i numbers -/
def Best (n : Nat) (ts : List (Nat × Nat × Nat)) (i : Nat) (S : List Nat) (w : Int) : Prop := (∃ j, j < 2 ^ (n - 1) ∧ S = sideOf n j ∧ w = W ts (2 * j)) ∧ ∀ j, j < i → W ts (2 * j) ≤ w
def Most (n : Nat) (ts : List (Nat × Nat × Nat)) (i : Nat) (w : Int) : Prop := (∃ j, j < 2 ^ n ∧ w = W ts j) ∧ ∀ j, j < i → W ts j ≤ w
theorem best_most {n : Nat} {ts : List (Nat × Nat × Nat)} {S : List Nat} {w v : Int} (hn : 1 ≤ n) (ok : ∀ t ∈ ts, tieOk n t) (b : Best n ts (2 ^ (n - 1)) S w) (m : Most n ts (2 ^ n) v) : w = v := by
  obtain ⟨⟨j, hj, _, e⟩, hb⟩ := b
  obtain ⟨⟨k, hk, e'⟩, hm⟩ := m
  obtain ⟨k', hk', e2⟩ := W_half hn ok hk
  have e3 : 2 ^ n = 2 * 2 ^ (n - 1) := by
    obtain ⟨m, rfl⟩ : ∃ m, n = m + 1 := ⟨n - 1, by omega⟩
    simp [Nat.pow_succ]; omega
  have h1 := hb k' hk'
  have h2 := hm (2 * j) (by omega)
  omega
def mostCut (wf : Str) : List MS := [
  .asg (.nm 1) (.tup [.tup [], .c (.int 0)]),
  .for_ (.nm 2) .rng1 (.bin .LShift (.c (.int 1)) (.bin .Sub (.ix (.var 0) (.c (.int 0))) (.c (.int 1)))) (.c .non) [
    .asg (.nm 3) (.blt .tuple [.lc (.var 4) (.nm 4) .rng2 (.c (.int 1)) (.ix (.var 0) (.c (.int 0))) [.cmp .Eq (.bin .BitAnd (.bin .RShift (.var 2) (.bin .Sub (.var 4) (.c (.int 1)))) (.c (.int 1))) (.c (.int 1))] [4]]),
    .asg (.nm 5) (.call wf [.var 0, .var 3]),
    .ite (.cmp .Gt (.var 5) (.ix (.var 1) (.c (.int 1)))) [
      .asg (.nm 1) (.tup [.var 3, .var 5])] []],
  .ret (.var 1)]
theorem shl1 {k : Nat} {h : MH} (hk : k ≤ 1000) : binM .LShift (.int 1) (.int (k : Int)) h = .ok (.int ((2 ^ k : Nat) : Int)) h := by
  rw [bn_shl ⟨by omega, by omega, by decide⟩]
  simp
theorem mostCut_call {Γ : Str → Option FD} {gl : Str → Option MV} {W' d : Nat} {f wf : Str} (g : Γ f = some ⟨1, 6, mostCut wf⟩) (c : CallWt (runF Γ gl W' d wf)) {h : MH} {n : Nat} {ts : List (Nat × Nat × Nat)} (hn : 1 ≤ n) (hn2 : n ≤ 40) (hts : ts.length ≤ lineM) (ok : ∀ t ∈ ts, tieOk n t) :
    ∃ S w, runF Γ gl W' (d + 1) f [webV n ts] h = .ok (.tup [.tup (nats S), .int w]) h ∧ Best n ts (2 ^ (n - 1)) S w := by
  have : Ev (runF Γ gl W' (d + 1) f [webV n ts] h) fun v h' => h' = h ∧ ∃ S w, v = .tup [.tup (nats S), .int w] ∧ Best n ts (2 ^ (n - 1)) S w := by
    refine run_ev g rfl ?_
    simp only [mostCut, List.map_cons, List.map_nil, List.replicate, List.cons_append, List.nil_append]
    walk_at "ev"
    simp only [web_0]
    walk_at "ev"
    rw [show ((n : Int) - 1) = ((n - 1 : Nat) : Int) by omega, shl1 (by omega)]
    walk_at "ev"
    have ei : ∀ h, itM .rng1 (.int ((2 ^ (n - 1) : Nat) : Int)) .non h = some (.fix (nats (List.range (2 ^ (n - 1))))) := fun h => it_rng (pow_small (by omega))
    simp only [ei, It.items]
    refine .bind ((for_fix (fun i σ h' => ∃ S w x2 x3 x5 J, σ = [some (webV n ts), some (.tup [.tup (nats S), .int w]), x2, x3, none, x5] ∧ h' = h ++ J ∧ Best n ts i S w)
      ⟨[], 0, none, none, none, [], rfl, by simp, ⟨0, Nat.pow_pos (by decide), by simp [sideOf], by simp [W_zero]⟩, by intro j hj; omega⟩ ?_).imp ?_)
    · rintro i v σ h' hi ⟨S, w, x2, x3, x5, J, rfl, rfl, ⟨j, hj, hS, hw⟩, hb⟩
      obtain ⟨rfl, hi2⟩ := nats_at hi
      simp only [forStep]
      walk_at "ev"
      simp only [web_0]
      walk_at "ev"
      have e2 : ∀ h, itM .rng2 (.int 1) (.int (n : Int)) h = some (.fix (nats (List.range' 1 (n - 1)))) := fun h => it_rng2 hn (by omega)
      simp only [e2, It.items]
      rw [comp_filter (q := fun p => i.testBit (p - 1)) ?_ (by simp [lineM]; omega)]
      · walk_at "ev"
        simp only [newO, bind_val]
        rw [tup_ref lsts_new]
        walk_at "ev"
        rw [c _ n ts _ _ (fun x => in_nats) hts]
        walk_at "ev"
        have e1 : ∀ h, ixM (.tup [.tup (nats S), .int w]) (.int 1) h = .ok (.int w) h := fun h => ix_tup (k := 1) rfl
        simp only [e1]
        walk_at "ev"
        have ec : cutW ts (fun x => decide (x ∈ sideOf n i)) = W ts (2 * i) := cut_of ok
        change cutW ts (fun x => decide (x ∈ List.filter (fun p => i.testBit (p - 1)) (List.range' 1 (n - 1)))) = W ts (2 * i) at ec
        simp only [ec]
        by_cases z : w < W ts (2 * i)
        · simp only [z, decide_true]
          walk_at "ev"
          refine .ok ⟨_, rfl, sideOf n i, W ts (2 * i), _, _, _, _, rfl, List.append_assoc .., ⟨i, hi2, rfl, rfl⟩, fun j hj => ?_⟩
          by_cases e : j = i
          · subst e; exact Int.le_refl _
          · have := hb j (by omega); omega
        · simp only [z, decide_false]
          walk_at "ev"
          refine .ok ⟨_, rfl, S, w, _, _, _, _, rfl, List.append_assoc .., ⟨j, hj, hS, hw⟩, fun j hj => ?_⟩
          by_cases e : j = i
          · subst e; omega
          · exact hb j (by omega)
      · intro p hp
        have hp := List.mem_range'.mp hp
        simp only [lcStep, wipeM, asgT, evTs, evE, List.getElem?_cons_zero, List.getElem?_cons_succ, List.set_cons_succ, List.set_cons_zero, bind_val, nV, bn_sub]
        rw [show ((p : Int) - 1) = ((p - 1 : Nat) : Int) by omega, bn_shr (by omega)]
        simp only [bind_val, bn_band, PyProof.Rows.bitAnd_m1, cm_eq, ofB_some, tru_bl, Int.toNat_natCast, bit_test]
        cases i.testBit (p - 1) <;> rfl
    · rintro fl h' ⟨_, rfl, S, w, x2, x3, x5, J, rfl, rfl, b⟩
      walk_at "ev"
      rw [nats_len, List.length_range] at b
      refine .ok ?_
      exact .of (trim_app (by simp [noRef, noRefs, noRef_nats])) ⟨rfl, S, w, rfl, b⟩
  obtain ⟨v, h', e, rfl, S, w, rfl, b⟩ := this
  exact ⟨S, w, e, b⟩
def most (wf : Str) : List MS := [
  .asg (.nm 1) (.c (.int 0)),
  .for_ (.nm 2) .rng1 (.bin .LShift (.c (.int 1)) (.ix (.var 0) (.c (.int 0)))) (.c .non) [
    .asg (.nm 3) (.lc (.var 4) (.nm 4) .rng1 (.ix (.var 0) (.c (.int 0))) (.c .non) [.cmp .Eq (.bin .BitAnd (.bin .RShift (.var 2) (.var 4)) (.c (.int 1))) (.c (.int 1))] [4]),
    .asg (.nm 1) (.blt .max [.var 1, .call wf [.var 0, .var 3]])],
  .ret (.var 1)]
theorem most_call {Γ : Str → Option FD} {gl : Str → Option MV} {W' d : Nat} {f wf : Str} (g : Γ f = some ⟨1, 5, most wf⟩) (c : CallWt (runF Γ gl W' d wf)) {h : MH} {n : Nat} {ts : List (Nat × Nat × Nat)} (hn : 1 ≤ n) (hn2 : n ≤ 39) (hts : ts.length ≤ lineM) (ok : ∀ t ∈ ts, tieOk n t) :
    ∃ w, runF Γ gl W' (d + 1) f [webV n ts] h = .ok (.int w) h ∧ Most n ts (2 ^ n) w := by
  have : Ev (runF Γ gl W' (d + 1) f [webV n ts] h) fun v h' => h' = h ∧ ∃ w, v = .int w ∧ Most n ts (2 ^ n) w := by
    refine run_ev g rfl ?_
    simp only [most, List.map_cons, List.map_nil, List.replicate, List.cons_append, List.nil_append]
    walk_at "ev"
    simp only [web_0]
    walk_at "ev"
    rw [shl1 (by omega)]
    walk_at "ev"
    have ei : ∀ h, itM .rng1 (.int ((2 ^ n : Nat) : Int)) .non h = some (.fix (nats (List.range (2 ^ n)))) := fun h => it_rng (pow_small (by omega))
    simp only [ei, It.items]
    refine .bind ((for_fix (fun i σ h' => ∃ w x2 x3 J, σ = [some (webV n ts), some (.int w), x2, x3, none] ∧ h' = h ++ J ∧ Most n ts i w)
      ⟨0, none, none, [], rfl, by simp, ⟨0, Nat.pow_pos (by decide), by simp [W_zero]⟩, by intro j hj; omega⟩ ?_).imp ?_)
    · rintro i v σ h' hi ⟨w, x2, x3, J, rfl, rfl, ⟨j, hj, hw⟩, hb⟩
      obtain ⟨rfl, hi2⟩ := nats_at hi
      simp only [forStep]
      walk_at "ev"
      simp only [web_0]
      walk_at "ev"
      have e2 : ∀ h, itM .rng1 (.int (n : Int)) .non h = some (.fix (nats (List.range n))) := fun h => it_rng (by omega)
      simp only [e2, It.items]
      rw [comp_filter (q := fun p => i.testBit p) ?_ (by simp [lineM]; omega)]
      · walk_at "ev"
        simp only [newO]
        walk_at "ev"
        rw [c _ n ts _ _ (fun x => in_natsL lsts_new) hts]
        walk_at "ev"
        have ec : cutW ts (fun x => decide (x ∈ sideAll n i)) = W ts i := cut_all ok
        change cutW ts (fun x => decide (x ∈ List.filter (fun p => i.testBit p) (List.range n))) = W ts i at ec
        simp only [ec]
        refine .ok ⟨_, rfl, if W ts i > w then W ts i else w, _, _, _, rfl, List.append_assoc .., ?_, fun j hj => ?_⟩
        · split
          · exact ⟨i, hi2, rfl⟩
          · exact ⟨j, hj, hw⟩
        · by_cases e : j = i
          · subst e; split <;> omega
          · have := hb j (by omega); split <;> omega
      · intro p hp
        simp only [lcStep, wipeM, asgT, evTs, evE, List.getElem?_cons_zero, List.getElem?_cons_succ, List.set_cons_succ, List.set_cons_zero, bind_val, nV]
        rw [bn_shr (by omega)]
        simp only [bind_val, bn_band, PyProof.Rows.bitAnd_m1, cm_eq, ofB_some, tru_bl, Int.toNat_natCast, bit_test]
        cases i.testBit p <;> rfl
    · rintro fl h' ⟨_, rfl, w, x2, x3, J, rfl, rfl, b⟩
      walk_at "ev"
      rw [nats_len, List.length_range] at b
      refine .ok ?_
      exact .of (trim_app rfl) ⟨rfl, w, rfl, b⟩
  obtain ⟨v, h', e, rfl, w, rfl, b⟩ := this
  exact ⟨w, e, b⟩
end FF
end Mn

set_option maxHeartbeats 1000000
/-! Shw: texts of values. -/
namespace Mn
open PySem L2
mutual
/-- no place, no text, ints of fewer than 20 digits -/
def okV : MV → Bool
  | .tup xs => okVs xs
  | .int i => decide (i.natAbs < 10 ^ 19)
  | .bl _ => true
  | .non => true
  | .str _ => false
  | .ref _ => false
def okVs : List MV → Bool
  | [] => true
  | x :: xs => okV x && okVs xs
end
mutual
def szV : MV → Nat
  | .tup xs => 4 + szVs xs
  | .int _ => 20
  | .bl _ => 5
  | .non => 4
  | .str _ => 0
  | .ref _ => 0
def szVs : List MV → Nat
  | [] => 0
  | x :: xs => szV x + 2 + szVs xs
end
mutual
def dpV : MV → Nat
  | .tup xs => dpVs xs + 1
  | .int _ => 0
  | .bl _ => 0
  | .non => 0
  | .str _ => 0
  | .ref _ => 0
def dpVs : List MV → Nat
  | [] => 0
  | x :: xs => max (dpV x) (dpVs xs)
end
mutual
theorem ok_noRef : ∀ v : MV, okV v = true → noRef v = true
  | .non, _ => rfl
  | .bl _, _ => rfl
  | .int _, _ => rfl
  | .str _, _ => rfl
  | .ref _, e => by simp [okV] at e
  | .tup xs, e => by simp only [okV] at e; simp only [noRef]; exact ok_noRefs xs e
theorem ok_noRefs : ∀ v : List MV, okVs v = true → noRefs v = true
  | [], _ => rfl
  | x :: xs, e => by simp only [okVs, Bool.and_eq_true] at e; simp [noRefs, ok_noRef x e.1, ok_noRefs xs e.2]
end
theorem log_small {i : Int} (e : i.natAbs < 10 ^ 19) : i.natAbs.log2 < 1920 := by
  by_cases c : i.natAbs = 0
  · rw [c]; decide
  · have h1 : i.natAbs < 2 ^ 64 := Nat.lt_of_lt_of_le e (by decide)
    have := (Nat.log2_lt c).mpr h1
    omega
mutual
theorem ok_show : ∀ v : MV, okV v = true → (tr v).showable = true ∧ (tr v).hasDict = false ∧ (tr v).depth = dpV v
  | .non, _ => ⟨rfl, rfl, rfl⟩
  | .bl _, _ => ⟨rfl, rfl, rfl⟩
  | .int i, e => by
    simp only [okV, decide_eq_true_eq] at e
    exact ⟨by simp only [tr, PyData.showable, decide_eq_true_eq]; exact log_small e, rfl, rfl⟩
  | .str _, e => by simp [okV] at e
  | .ref _, e => by simp [okV] at e
  | .tup xs, e => by simp only [okV] at e; obtain ⟨h1, h2, h3⟩ := ok_shows xs e; exact ⟨h1, h2, by simp only [tr, PyData.depth, dpV, h3]⟩
theorem ok_shows : ∀ v : List MV, okVs v = true → PyData.showableAll (trs v) = true ∧ PyData.hasDictAll (trs v) = false ∧ PyData.depthAll (trs v) = dpVs v
  | [], _ => ⟨rfl, rfl, rfl⟩
  | x :: xs, e => by
    simp only [okVs, Bool.and_eq_true] at e
    obtain ⟨h1, h2, h3⟩ := ok_show x e.1
    obtain ⟨g1, g2, g3⟩ := ok_shows xs e.2
    exact ⟨by simp [trs, PyData.showableAll, h1, g1], by simp [trs, PyData.hasDictAll, h2, g2], by simp only [trs, PyData.depthAll, dpVs, h3, g3]⟩
end
def sums (ts : List Str) : Nat := (ts.map fun t => t.length + 2).sum
theorem txt_le : ∀ (ts : List Str) (k : Nat) (acc : Str), (textFrom k acc ts).length ≤ acc.length + sums ts
  | [], _, acc => by simp [textFrom, sums]
  | t :: r, k, acc => by
    have h := txt_le r (k + 1) (acc ++ (if k > 0 then ", " else "" : String) ++ t)
    have e : (acc ++ (if k > 0 then ", " else "" : String) ++ t).length ≤ acc.length + 2 + t.length := by
      rw [Str.length_append, Str.length_append]
      split <;> simp [show ((", " : String) : Str).length = 2 from rfl, show (("" : String) : Str).length = 0 from rfl]
    simp only [sums, List.map_cons, List.sum_cons] at h ⊢
    simp only [textFrom]
    omega
theorem list_le (ts : List Str) : (listText ts).length ≤ 2 + sums ts := by
  have := txt_le ts 0 "["
  have e : (("[" : String) : Str).length = 1 := rfl
  have e2 : (("]" : String) : Str).length = 1 := rfl
  unfold listText
  rw [Str.length_append, e2]
  omega
theorem join_le (ts : List Str) : (Str.join ", " ts).length ≤ sums ts := by
  match ts with
  | [] => exact Nat.zero_le _
  | [x] => simp [Str.join, sums]
  | x :: y :: r =>
    have ih := join_le (y :: r)
    have e : (Str.join ", " (x :: y :: r)) = x ++ ", " ++ Str.join ", " (y :: r) := rfl
    have e2 : ((", " : String) : Str).length = 2 := rfl
    rw [e, Str.length_append, Str.length_append, e2]
    simp only [sums, List.map_cons, List.sum_cons] at ih ⊢
    omega
theorem tuple_le (ts : List Str) : (tupleText ts).length ≤ 3 + sums ts := by
  have h := join_le ts
  have e : (("(" : String) : Str).length = 1 := rfl
  unfold tupleText
  rw [Str.length_append, Str.length_append, e]
  have e2 : (((if ts.length == 1 then ",)" else ")" : String)) : Str).length ≤ 2 := by split <;> decide
  omega
mutual
theorem len_shown : ∀ v : MV, okV v = true → (tr v).shown.length ≤ szV v
  | .non, _ => by decide
  | .bl b, _ => by cases b <;> decide
  | .int i, e => by
    simp only [okV, decide_eq_true_eq] at e
    have := int_text_length_le10 (k := 19) (by decide) e
    have e2 : (tr (.int i)).shown.length = (toString i).length := by rw [show (tr (.int i)).shown = Str.ofString (toString i) from rfl, ofString_length]
    rw [e2]
    exact this
  | .str _, e => by simp [okV] at e
  | .ref _, e => by simp [okV] at e
  | .tup xs, e => by
    simp only [okV] at e
    have := len_shows xs e
    have h2 := tuple_le (PyData.shownAll (trs xs))
    simp only [tr, PyData.shown, szV]
    omega
theorem len_shows : ∀ v : List MV, okVs v = true → sums (PyData.shownAll (trs v)) ≤ szVs v
  | [], _ => by decide
  | x :: xs, e => by
    simp only [okVs, Bool.and_eq_true] at e
    have h1 := len_shown x e.1
    have h2 := len_shows xs e.2
    simp only [sums, trs, PyData.shownAll, List.map_cons, List.sum_cons, szVs] at h2 ⊢
    omega
end
theorem repr_ok {v : MV} {h : MH} (e : okV v = true) (d : dpV v ≤ 60) (z : szV v ≤ lineM) : bltM .repr [v] h = .ok (.str (tr v).shown) h := by
  obtain ⟨h1, h2, h3⟩ := ok_show v e
  have h4 := len_shown v e
  simp only [bltM, snap_tr (ok_noRef v e), Option.bind_some, reprD]
  rw [if_pos ⟨h1, h2, by omega, by omega⟩]
theorem repr_lst {xs : List MV} {a : Nat} {h : MH} (l : lsts h a = some xs) (e : okVs xs = true) (d : dpVs xs ≤ 59) (z : szVs xs + 4 ≤ lineM) : bltM .repr [.ref a] h = .ok (.str (PyData.list (trs xs)).shown) h := by
  obtain ⟨h1, h2, h3⟩ := ok_shows xs e
  have h4 := len_shows xs e
  have h5 := list_le (PyData.shownAll (trs xs))
  simp only [bltM, snap_lst l (ok_noRefs xs e), Option.bind_some, reprD]
  rw [if_pos ⟨h1, h2, by simp only [PyData.depth]; omega, by simp only [PyData.shown]; omega⟩]
theorem ok_nats : ∀ L : List Nat, (∀ p ∈ L, p < 10 ^ 19) → okVs (nats L) = true ∧ dpVs (nats L) = 0 ∧ szVs (nats L) = 22 * L.length
  | [], _ => ⟨rfl, rfl, rfl⟩
  | p :: L, e => by
    obtain ⟨h1, h2, h3⟩ := ok_nats L fun q hq => e q (List.mem_cons_of_mem _ hq)
    have hp := e p (List.mem_cons_self ..)
    simp only [nats] at h1 h2 h3
    refine ⟨?_, ?_, ?_⟩
    · simp only [nats, List.map_cons, okVs, h1, nV, okV, Bool.and_true, decide_eq_true_eq]; omega
    · simp only [nats, List.map_cons, dpVs, h2, nV, dpV]; rfl
    · simp only [nats, List.map_cons, szVs, h3, nV, szV, List.length_cons]; omega
namespace FF
theorem cutW_le {n : Nat} {q : Nat → Bool} : ∀ ts : List (Nat × Nat × Nat), (∀ t ∈ ts, tieOk n t) → 0 ≤ cutW ts q ∧ cutW ts q ≤ 100 * ts.length
  | [], _ => by simp [cutW]
  | t :: ts, ok => by
    have h1 := cutW_le (q := q) ts fun u hu => ok u (List.mem_cons_of_mem _ hu)
    have h2 := (ok t (List.mem_cons_self ..)).2.2
    by_cases c : (q t.1 != q t.2.1) = true
    · have e : cutW (t :: ts) q = (t.2.2 : Int) + cutW ts q := by
        unfold cutW
        have r : (t :: ts).filter (fun t => q t.1 != q t.2.1) = t :: ts.filter (fun t => q t.1 != q t.2.1) := List.filter_cons_of_pos c
        rw [r, List.map_cons, List.sum_cons]
      rw [e, List.length_cons]
      omega
    · have e : cutW (t :: ts) q = cutW ts q := by
        unfold cutW
        have r : (t :: ts).filter (fun t => q t.1 != q t.2.1) = ts.filter (fun t => q t.1 != q t.2.1) := List.filter_cons_of_neg c
        rw [r]
      rw [e, List.length_cons]
      omega
theorem ties_ok {n : Nat} (hn : n ≤ 1000) : ∀ ts : List (Nat × Nat × Nat), (∀ t ∈ ts, tieOk n t) → okVs (ts.map tieV) = true ∧ dpVs (ts.map tieV) ≤ 1 ∧ szVs (ts.map tieV) = 72 * ts.length
  | [], _ => ⟨rfl, by decide, rfl⟩
  | t :: ts, ok => by
    obtain ⟨h1, h2, h3⟩ := ties_ok hn ts fun u hu => ok u (List.mem_cons_of_mem _ hu)
    obtain ⟨o1, o2, o3⟩ := ok t (List.mem_cons_self ..)
    refine ⟨?_, ?_, ?_⟩
    · simp only [List.map_cons, okVs, h1, tieV, okV, Bool.and_true, Bool.and_eq_true, decide_eq_true_eq]; omega
    · simp only [List.map_cons, dpVs, tieV, dpV]; omega
    · simp only [List.map_cons, szVs, h3, tieV, szV, List.length_cons]; omega
theorem web_okV {n : Nat} {ts : List (Nat × Nat × Nat)} (hn : n ≤ 1000) (ok : ∀ t ∈ ts, tieOk n t) (l : ts.length ≤ 1000) : okV (webV n ts) = true ∧ dpV (webV n ts) ≤ 60 ∧ szV (webV n ts) ≤ lineM := by
  obtain ⟨h1, h2, h3⟩ := ties_ok hn ts ok
  refine ⟨?_, ?_, ?_⟩
  · simp only [webV, okV, okVs, h1, Bool.and_true, decide_eq_true_eq]; omega
  · simp only [webV, dpV, dpVs]; omega
  · simp only [webV, szV, szVs, h3, lineM]; omega
theorem rising_side {n j : Nat} (hn : 1 ≤ n) : (List.range n).filter (fun x => decide (x ∈ sideOf n j)) = sideOf n j := by
  obtain ⟨m, rfl⟩ : ∃ m, n = m + 1 := ⟨n - 1, by omega⟩
  have e : List.range (m + 1) = 0 :: List.range' 1 m := by rw [List.range_eq_range', List.range'_succ]
  have z : (0 : Nat) ∉ sideOf (m + 1) j := by simp [sideOf]
  rw [e, List.filter_cons_of_neg (by simpa using z)]
  unfold sideOf
  refine List.filter_congr fun x hx => ?_
  simp only [Nat.add_sub_cancel, List.mem_filter]
  simp [hx]
end FF
end Mn

namespace K83
open PySem PySem.Spec PyProof.Rows L2 Mn
def topS (i : Nat) : Stmt := PySem.Challenge.pw_oddjoins_k83_most_weighty_sides.main.body.getD i (.Pass ⟨0, 0, 0, 0⟩)
def b_weight_of : List MS := [
  .ret (.blt .sum [.lc (.ix (.var 2) (.c (.int 2))) (.nm 2) .val (.ix (.var 0) (.c (.int 1))) (.c .non) [.cmp .NotEq (.cmp .In (.ix (.var 2) (.c (.int 0))) (.var 1)) (.cmp .In (.ix (.var 2) (.c (.int 1))) (.var 1))] [2]])]
def b_most_cut : List MS := [
  .asg (.nm 1) (.tup [.tup [], .c (.int 0)]),
  .for_ (.nm 2) .rng1 (.bin .LShift (.c (.int 1)) (.bin .Sub (.ix (.var 0) (.c (.int 0))) (.c (.int 1)))) (.c .non) [
    .asg (.nm 3) (.blt .tuple [.lc (.var 4) (.nm 4) .rng2 (.c (.int 1)) (.ix (.var 0) (.c (.int 0))) [.cmp .Eq (.bin .BitAnd (.bin .RShift (.var 2) (.bin .Sub (.var 4) (.c (.int 1)))) (.c (.int 1))) (.c (.int 1))] [4]]),
    .asg (.nm 5) (.call "weight_of" [.var 0, .var 3]),
    .ite (.cmp .Gt (.var 5) (.ix (.var 1) (.c (.int 1)))) [
      .asg (.nm 1) (.tup [.var 3, .var 5])] []],
  .ret (.var 1)]
def b__law_feed : List MS := [
  .ret (.dsp [.c (.str "cells"), .bin .Add (.blt .list [.slH (.var 0) (.c (.int 63))]) (.bin .Mult (.lst [.c (.int 0)]) (.blt .int [.cmp .Eq (.var 0) (.lst [])])), .c (.str "at"), .c (.int 0), .c (.str "left"), .c (.int 0), .c (.str "turn"), .c (.int 0)])]
def b__law_draw : List MS := [
  .asgSub (.var 0) (.c (.str "turn")) (.bin .Add (.ix (.var 0) (.c (.str "turn"))) (.c (.int 1))),
  .asg (.nm 2) (.ix (.var 0) (.c (.str "cells"))),
  .whl (.and_ (.cmp .Eq (.ix (.var 0) (.c (.str "left"))) (.c (.int 0))) (.cmp .Lt (.ix (.var 0) (.c (.str "at"))) (.blt .len [.var 2]))) [
    .asgSub (.var 0) (.c (.str "left")) (.bin .Mult (.ix (.var 2) (.ix (.var 0) (.c (.str "at")))) (.blt .int [.cmp .GtE (.ix (.var 2) (.ix (.var 0) (.c (.str "at")))) (.bin .Pow (.c (.int 10)) (.c (.int 18)))])),
    .asgSub (.var 0) (.c (.str "at")) (.bin .Add (.ix (.var 0) (.c (.str "at"))) (.c (.int 1)))],
  .ite (.cmp .Gt (.ix (.var 0) (.c (.str "left"))) (.c (.int 0))) [
    .asg (.nm 3) (.bin .Mod (.ix (.var 0) (.c (.str "left"))) (.var 1)),
    .asgSub (.var 0) (.c (.str "left")) (.bin .FloorDiv (.ix (.var 0) (.c (.str "left"))) (.var 1)),
    .ret (.var 3)] [],
  .asg (.nm 4) (.ix (.var 0) (.c (.str "turn"))),
  .asg (.nm 5) (.bin .Mod (.ix (.var 2) (.bin .Mod (.var 4) (.blt .len [.var 2]))) (.c (.int 2147483629))),
  .asg (.nm 6) (.bin .Mod (.bin .Mult (.bin .Add (.var 5) (.bin .Mult (.c (.int 1013)) (.var 4))) (.c (.int 48271))) (.c (.int 2147483647))),
  .asg (.nm 6) (.bin .Mod (.bin .Mult (.bin .Add (.bin .FloorDiv (.var 6) (.c (.int 13))) (.bin .Mult (.c (.int 37)) (.var 4))) (.c (.int 69621))) (.c (.int 2147483587))),
  .ret (.bin .Mod (.bin .FloorDiv (.var 6) (.c (.int 7))) (.var 1))]
def b__law_price : List MS := [
  .ret (.ix (.lst [.c (.int 0), .c (.int 1), .c (.int 2), .c (.int 3), .bin .Add (.c (.int 1)) (.call "_law_draw" [.var 0, .c (.int 9)]), .call "_law_draw" [.var 0, .c (.int 100)]]) (.call "_law_draw" [.var 0, .c (.int 6)]))]
def b__law_web : List MS := [
  .asg (.nm 3) (.bin .Add (.c (.int 1)) (.call "_law_draw" [.var 0, .var 1])),
  .asg (.nm 4) (.lst []),
  .for_ (.nm 5) .rng1 (.bin .Mult (.call "_law_draw" [.var 0, .bin .Add (.var 2) (.c (.int 1))]) (.blt .int [.cmp .Gt (.var 3) (.c (.int 1))])) (.c .non) [
    .asg (.nm 6) (.call "_law_draw" [.var 0, .var 3]),
    .asg (.nm 7) (.bin .Mod (.bin .Add (.bin .Add (.var 6) (.c (.int 1))) (.call "_law_draw" [.var 0, .bin .Sub (.var 3) (.c (.int 1))])) (.var 3)),
    .expr (.meth .append (.var 4) [.tup [.blt .min [.var 6, .var 7], .blt .max [.var 6, .var 7], .call "_law_price" [.var 0]]])],
  .ret (.tup [.var 3, .blt .tuple [.var 4]])]
def b__law_weight : List MS := [
  .ret (.blt .sum [.lc (.ix (.var 2) (.c (.int 2))) (.nm 2) .val (.ix (.var 0) (.c (.int 1))) (.c .non) [.cmp .NotEq (.cmp .In (.ix (.var 2) (.c (.int 0))) (.var 1)) (.cmp .In (.ix (.var 2) (.c (.int 1))) (.var 1))] [2]])]
def b__law_most : List MS := [
  .asg (.nm 1) (.c (.int 0)),
  .for_ (.nm 2) .rng1 (.bin .LShift (.c (.int 1)) (.ix (.var 0) (.c (.int 0)))) (.c .non) [
    .asg (.nm 3) (.lc (.var 4) (.nm 4) .rng1 (.ix (.var 0) (.c (.int 0))) (.c .non) [.cmp .Eq (.bin .BitAnd (.bin .RShift (.var 2) (.var 4)) (.c (.int 1))) (.c (.int 1))] [4]),
    .asg (.nm 1) (.blt .max [.var 1, .call "_law_weight" [.var 0, .var 3]])],
  .ret (.var 1)]
def b_law : List MS := [
  .asg (.nm 1) (.call "_law_feed" [.var 0]),
  .asg (.nm 2) (.lst [.call "_law_web" [.var 1, .c (.int 9), .c (.int 16)], .call "_law_web" [.var 1, .c (.int 4), .c (.int 6)], .call "_law_web" [.var 1, .c (.int 5), .c (.int 9)]]),
  .for_ (.nm 3) .val (.bin .Add (.var 2) (.slH (.var 2) (.c (.int 1)))) (.c .non) [
    .asg (.nm 4) (.blt .repr [.var 3]),
    .asg (.nm 5) (.call "most_cut" [.var 3]),
    .asg (.nm 6) (.call "_law_most" [.var 3]),
    .ite (.or_ (.not_ (.isi (.var 5) .tuple)) (.or_ (.cmp .NotEq (.blt .len [.var 5]) (.c (.int 2))) (.or_ (.cmp .NotEq (.blt .repr [.ix (.var 5) (.c (.int 1))]) (.blt .repr [.var 6])) (.cmp .NotEq (.blt .repr [.var 3]) (.var 4))))) [
      .ret (.c (.bl false))] [],
    .asg (.nm 7) (.ix (.var 5) (.c (.int 0))),
    .asg (.nm 8) (.lc (.var 9) (.nm 9) .rng1 (.ix (.var 3) (.c (.int 0))) (.c .non) [.cmp .In (.var 9) (.var 7)] [9]),
    .ite (.or_ (.not_ (.isi (.var 7) .tuple)) (.cmp .NotEq (.blt .repr [.blt .list [.var 7]]) (.blt .repr [.var 8]))) [
      .ret (.c (.bl false))] [],
    .ite (.cmp .NotEq (.call "_law_weight" [.var 3, .var 7]) (.var 6)) [
      .ret (.c (.bl false))] []],
  .ret (.c (.bl true))]
abbrev s_weight_of : Stmt := topS 1
def e_weight_of : En := ⟨"weight_of", s_weight_of, ["web", "side", "tie"], ["web", "side"], b_weight_of⟩
abbrev s_most_cut : Stmt := topS 2
def e_most_cut : En := ⟨"most_cut", s_most_cut, ["web", "best", "number", "side", "place", "weight"], ["web"], b_most_cut⟩
abbrev s__law_feed : Stmt := topS 4
def e__law_feed : En := ⟨"_law_feed", s__law_feed, ["_law_script"], ["_law_script"], b__law_feed⟩
abbrev s__law_draw : Stmt := topS 5
def e__law_draw : En := ⟨"_law_draw", s__law_draw, ["_law_feed_here", "_law_many", "_law_cells", "_law_found", "_law_turn", "_law_cell", "_law_mixed"], ["_law_feed_here", "_law_many"], b__law_draw⟩
abbrev s__law_price : Stmt := topS 6
def e__law_price : En := ⟨"_law_price", s__law_price, ["_law_feed_here"], ["_law_feed_here"], b__law_price⟩
abbrev s__law_web : Stmt := topS 7
def e__law_web : En := ⟨"_law_web", s__law_web, ["_law_feed_here", "_law_places", "_law_most_here", "_law_many", "_law_ties", "_law_k", "_law_one", "_law_other"], ["_law_feed_here", "_law_places", "_law_most_here"], b__law_web⟩
abbrev s__law_weight : Stmt := topS 8
def e__law_weight : En := ⟨"_law_weight", s__law_weight, ["_law_web_here", "_law_side", "_law_tie"], ["_law_web_here", "_law_side"], b__law_weight⟩
abbrev s__law_most : Stmt := topS 9
def e__law_most : En := ⟨"_law_most", s__law_most, ["_law_web_here", "_law_found", "_law_number", "_law_side", "_law_place"], ["_law_web_here"], b__law_most⟩
abbrev s_law : Stmt := topS 10
def e_law : En := ⟨"law", s_law, ["_law_script", "_law_feed_here", "_law_webs", "_law_web_here", "_law_kept", "_law_found", "_law_due", "_law_side", "_law_rising", "_law_place"], ["_law_script"], b_law⟩
def tab : List En := [e_weight_of, e_most_cut, e__law_feed, e__law_draw, e__law_price, e__law_web, e__law_weight, e__law_most, e_law]
def Bs : List Str := ["int", "isinstance", "len", "list", "max", "min", "range", "repr", "sum", "tuple"]
def Gs : List Str := []
def gl (x : Str) : Option MV := none
abbrev Gm : Str → Option FD := tabGm tab
def fuel : Nat := 1000000
abbrev run (d : Nat) : Str → List MV → MH → R MV := runF Gm gl fuel d
theorem ok_weight_of : EnOk Bs Gs (names tab) e_weight_of := ⟨⟨rfl, rfl, rfl, by decide +kernel, rfl, by decide +kernel, by decide +kernel⟩, by kernel_rfl⟩
theorem ok_most_cut : EnOk Bs Gs (names tab) e_most_cut := ⟨⟨rfl, rfl, rfl, by decide +kernel, rfl, by decide +kernel, by decide +kernel⟩, by kernel_rfl⟩
theorem ok__law_feed : EnOk Bs Gs (names tab) e__law_feed := ⟨⟨rfl, rfl, rfl, by decide +kernel, rfl, by decide +kernel, by decide +kernel⟩, by kernel_rfl⟩
theorem ok__law_draw : EnOk Bs Gs (names tab) e__law_draw := ⟨⟨rfl, rfl, rfl, by decide +kernel, rfl, by decide +kernel, by decide +kernel⟩, by kernel_rfl⟩
theorem ok__law_price : EnOk Bs Gs (names tab) e__law_price := ⟨⟨rfl, rfl, rfl, by decide +kernel, rfl, by decide +kernel, by decide +kernel⟩, by kernel_rfl⟩
theorem ok__law_web : EnOk Bs Gs (names tab) e__law_web := ⟨⟨rfl, rfl, rfl, by decide +kernel, rfl, by decide +kernel, by decide +kernel⟩, by kernel_rfl⟩
theorem ok__law_weight : EnOk Bs Gs (names tab) e__law_weight := ⟨⟨rfl, rfl, rfl, by decide +kernel, rfl, by decide +kernel, by decide +kernel⟩, by kernel_rfl⟩
theorem ok__law_most : EnOk Bs Gs (names tab) e__law_most := ⟨⟨rfl, rfl, rfl, by decide +kernel, rfl, by decide +kernel, by decide +kernel⟩, by kernel_rfl⟩
theorem ok_law : EnOk Bs Gs (names tab) e_law := ⟨⟨rfl, rfl, rfl, by decide +kernel, rfl, by decide +kernel, by decide +kernel⟩, by kernel_rfl⟩
theorem ok_all : ∀ e ∈ tab, EnOk Bs Gs (names tab) e := by
  intro e he
  simp only [tab, List.mem_cons, List.mem_nil_iff, or_false] at he
  rcases he with rfl | rfl | rfl | rfl | rfl | rfl | rfl | rfl | rfl
  · exact ok_weight_of
  · exact ok_most_cut
  · exact ok__law_feed
  · exact ok__law_draw
  · exact ok__law_price
  · exact ok__law_web
  · exact ok__law_weight
  · exact ok__law_most
  · exact ok_law
theorem nd_tab : (names tab).Nodup := by decide +kernel
theorem g_weight_of : Gm "weight_of" = some ⟨2, 3, b_weight_of⟩ := by kernel_rfl
theorem g_most_cut : Gm "most_cut" = some ⟨1, 6, b_most_cut⟩ := by kernel_rfl
theorem g__law_feed : Gm "_law_feed" = some ⟨1, 1, b__law_feed⟩ := by kernel_rfl
theorem g__law_draw : Gm "_law_draw" = some ⟨2, 7, b__law_draw⟩ := by kernel_rfl
theorem g__law_price : Gm "_law_price" = some ⟨1, 1, b__law_price⟩ := by kernel_rfl
theorem g__law_web : Gm "_law_web" = some ⟨3, 8, b__law_web⟩ := by kernel_rfl
theorem g__law_weight : Gm "_law_weight" = some ⟨2, 3, b__law_weight⟩ := by kernel_rfl
theorem g__law_most : Gm "_law_most" = some ⟨1, 5, b__law_most⟩ := by kernel_rfl
theorem g_law : Gm "law" = some ⟨1, 10, b_law⟩ := by kernel_rfl
set_option maxHeartbeats 4000000 in
theorem all_mk {l : PySem.W.OpenLaw} {w : World} {K : PySem.W.Frag} {h : Heap} {mg : Str → Option Value} {fa : Addr} (X : K.In h) (G : h.Ns mainGlobals mg) (hfa : mg "law" = some (.ref fa)) {dd : Nat}
    {f0 : Addr} {od0 an0 : Option Addr} {sl0 : Array (Option Value)} {oc0 kV0 dc0 pm0 cd0 ct0 : Value}
    (a0 : PySem.W.nsIn K mainGlobals "weight_of" = some (some (.ref f0))) (l0 : K.lookup f0 = some ⟨oc0, od0, .func (PySem.W.fnOf "weight_of" "weight_of" (defArgs s_weight_of) (defBody s_weight_of) (defScope s_weight_of) .none kV0 dc0 pm0 an0 cd0 ct0), sl0⟩) (c0 : PySem.W.codeIn K cd0 "weight_of" = true) (k0 : PySem.W.keepIn K (.ref f0) = true)
    {f1 : Addr} {od1 an1 : Option Addr} {sl1 : Array (Option Value)} {oc1 kV1 dc1 pm1 cd1 ct1 : Value}
    (a1 : PySem.W.nsIn K mainGlobals "most_cut" = some (some (.ref f1))) (l1 : K.lookup f1 = some ⟨oc1, od1, .func (PySem.W.fnOf "most_cut" "most_cut" (defArgs s_most_cut) (defBody s_most_cut) (defScope s_most_cut) .none kV1 dc1 pm1 an1 cd1 ct1), sl1⟩) (c1 : PySem.W.codeIn K cd1 "most_cut" = true) (k1 : PySem.W.keepIn K (.ref f1) = true)
    {f2 : Addr} {od2 an2 : Option Addr} {sl2 : Array (Option Value)} {oc2 kV2 dc2 pm2 cd2 ct2 : Value}
    (a2 : PySem.W.nsIn K mainGlobals "_law_feed" = some (some (.ref f2))) (l2 : K.lookup f2 = some ⟨oc2, od2, .func (PySem.W.fnOf "_law_feed" "_law_feed" (defArgs s__law_feed) (defBody s__law_feed) (defScope s__law_feed) .none kV2 dc2 pm2 an2 cd2 ct2), sl2⟩) (c2 : PySem.W.codeIn K cd2 "_law_feed" = true) (k2 : PySem.W.keepIn K (.ref f2) = true)
    {f3 : Addr} {od3 an3 : Option Addr} {sl3 : Array (Option Value)} {oc3 kV3 dc3 pm3 cd3 ct3 : Value}
    (a3 : PySem.W.nsIn K mainGlobals "_law_draw" = some (some (.ref f3))) (l3 : K.lookup f3 = some ⟨oc3, od3, .func (PySem.W.fnOf "_law_draw" "_law_draw" (defArgs s__law_draw) (defBody s__law_draw) (defScope s__law_draw) .none kV3 dc3 pm3 an3 cd3 ct3), sl3⟩) (c3 : PySem.W.codeIn K cd3 "_law_draw" = true) (k3 : PySem.W.keepIn K (.ref f3) = true)
    {f4 : Addr} {od4 an4 : Option Addr} {sl4 : Array (Option Value)} {oc4 kV4 dc4 pm4 cd4 ct4 : Value}
    (a4 : PySem.W.nsIn K mainGlobals "_law_price" = some (some (.ref f4))) (l4 : K.lookup f4 = some ⟨oc4, od4, .func (PySem.W.fnOf "_law_price" "_law_price" (defArgs s__law_price) (defBody s__law_price) (defScope s__law_price) .none kV4 dc4 pm4 an4 cd4 ct4), sl4⟩) (c4 : PySem.W.codeIn K cd4 "_law_price" = true) (k4 : PySem.W.keepIn K (.ref f4) = true)
    {f5 : Addr} {od5 an5 : Option Addr} {sl5 : Array (Option Value)} {oc5 kV5 dc5 pm5 cd5 ct5 : Value}
    (a5 : PySem.W.nsIn K mainGlobals "_law_web" = some (some (.ref f5))) (l5 : K.lookup f5 = some ⟨oc5, od5, .func (PySem.W.fnOf "_law_web" "_law_web" (defArgs s__law_web) (defBody s__law_web) (defScope s__law_web) .none kV5 dc5 pm5 an5 cd5 ct5), sl5⟩) (c5 : PySem.W.codeIn K cd5 "_law_web" = true) (k5 : PySem.W.keepIn K (.ref f5) = true)
    {f6 : Addr} {od6 an6 : Option Addr} {sl6 : Array (Option Value)} {oc6 kV6 dc6 pm6 cd6 ct6 : Value}
    (a6 : PySem.W.nsIn K mainGlobals "_law_weight" = some (some (.ref f6))) (l6 : K.lookup f6 = some ⟨oc6, od6, .func (PySem.W.fnOf "_law_weight" "_law_weight" (defArgs s__law_weight) (defBody s__law_weight) (defScope s__law_weight) .none kV6 dc6 pm6 an6 cd6 ct6), sl6⟩) (c6 : PySem.W.codeIn K cd6 "_law_weight" = true) (k6 : PySem.W.keepIn K (.ref f6) = true)
    {f7 : Addr} {od7 an7 : Option Addr} {sl7 : Array (Option Value)} {oc7 kV7 dc7 pm7 cd7 ct7 : Value}
    (a7 : PySem.W.nsIn K mainGlobals "_law_most" = some (some (.ref f7))) (l7 : K.lookup f7 = some ⟨oc7, od7, .func (PySem.W.fnOf "_law_most" "_law_most" (defArgs s__law_most) (defBody s__law_most) (defScope s__law_most) .none kV7 dc7 pm7 an7 cd7 ct7), sl7⟩) (c7 : PySem.W.codeIn K cd7 "_law_most" = true) (k7 : PySem.W.keepIn K (.ref f7) = true)
    {f8 : Addr} {od8 an8 : Option Addr} {sl8 : Array (Option Value)} {oc8 kV8 dc8 pm8 cd8 ct8 : Value}
    (a8 : PySem.W.nsIn K mainGlobals "law" = some (some (.ref f8))) (l8 : K.lookup f8 = some ⟨oc8, od8, .func (PySem.W.fnOf "law" "law" (defArgs s_law) (defBody s_law) (defScope s_law) .none kV8 dc8 pm8 an8 cd8 ct8), sl8⟩) (c8 : PySem.W.codeIn K cd8 "law" = true) (k8 : PySem.W.keepIn K (.ref f8) = true)
    (z0 : PySem.W.nsIn K mainGlobals "int" = some none)
    (z1 : PySem.W.nsIn K mainGlobals "isinstance" = some none)
    (z2 : PySem.W.nsIn K mainGlobals "len" = some none)
    (z3 : PySem.W.nsIn K mainGlobals "list" = some none)
    (z4 : PySem.W.nsIn K mainGlobals "max" = some none)
    (z5 : PySem.W.nsIn K mainGlobals "min" = some none)
    (z6 : PySem.W.nsIn K mainGlobals "range" = some none)
    (z7 : PySem.W.nsIn K mainGlobals "repr" = some none)
    (z8 : PySem.W.nsIn K mainGlobals "sum" = some none)
    (z9 : PySem.W.nsIn K mainGlobals "tuple" = some none)
    : ∃ fd : FuncData, (∀ (s : Shared) (v : Value), BindsTo s fd ⟨[v], []⟩ [("_law_script", v)]) ∧ ∀ base : Heap, K.In base → base.Ns mainGlobals mg → FnG l.prog w K mg base dd fa fd ["_law_script"] (spM K (run dd) "law" 1) := by
  have e := hfa.symm.trans (PySem.W.mg_of X G a8)
  cases e
  have F0 := fun_mk (st := s_weight_of) l0 c0 k0
  have A0 : EnAt K mg e_weight_of f0 _ := ⟨F0, PySem.W.mg_of X G a0, F0.binds (ps := ["web", "side"]) fun _ _ _ _ _ _ us hl => match us, hl with | [_, _], _ => rfl⟩
  have F1 := fun_mk (st := s_most_cut) l1 c1 k1
  have A1 : EnAt K mg e_most_cut f1 _ := ⟨F1, PySem.W.mg_of X G a1, F1.binds (ps := ["web"]) fun _ _ _ _ _ _ us hl => match us, hl with | [_], _ => rfl⟩
  have F2 := fun_mk (st := s__law_feed) l2 c2 k2
  have A2 : EnAt K mg e__law_feed f2 _ := ⟨F2, PySem.W.mg_of X G a2, F2.binds (ps := ["_law_script"]) fun _ _ _ _ _ _ us hl => match us, hl with | [_], _ => rfl⟩
  have F3 := fun_mk (st := s__law_draw) l3 c3 k3
  have A3 : EnAt K mg e__law_draw f3 _ := ⟨F3, PySem.W.mg_of X G a3, F3.binds (ps := ["_law_feed_here", "_law_many"]) fun _ _ _ _ _ _ us hl => match us, hl with | [_, _], _ => rfl⟩
  have F4 := fun_mk (st := s__law_price) l4 c4 k4
  have A4 : EnAt K mg e__law_price f4 _ := ⟨F4, PySem.W.mg_of X G a4, F4.binds (ps := ["_law_feed_here"]) fun _ _ _ _ _ _ us hl => match us, hl with | [_], _ => rfl⟩
  have F5 := fun_mk (st := s__law_web) l5 c5 k5
  have A5 : EnAt K mg e__law_web f5 _ := ⟨F5, PySem.W.mg_of X G a5, F5.binds (ps := ["_law_feed_here", "_law_places", "_law_most_here"]) fun _ _ _ _ _ _ us hl => match us, hl with | [_, _, _], _ => rfl⟩
  have F6 := fun_mk (st := s__law_weight) l6 c6 k6
  have A6 : EnAt K mg e__law_weight f6 _ := ⟨F6, PySem.W.mg_of X G a6, F6.binds (ps := ["_law_web_here", "_law_side"]) fun _ _ _ _ _ _ us hl => match us, hl with | [_, _], _ => rfl⟩
  have F7 := fun_mk (st := s__law_most) l7 c7 k7
  have A7 : EnAt K mg e__law_most f7 _ := ⟨F7, PySem.W.mg_of X G a7, F7.binds (ps := ["_law_web_here"]) fun _ _ _ _ _ _ us hl => match us, hl with | [_], _ => rfl⟩
  have F8 := fun_mk (st := s_law) l8 c8 k8
  have A8 : EnAt K mg e_law fa _ := ⟨F8, PySem.W.mg_of X G a8, F8.binds (ps := ["_law_script"]) fun _ _ _ _ _ _ us hl => match us, hl with | [_], _ => rfl⟩
  have hA : ∀ e ∈ tab, ∃ f fd, EnAt K mg e f fd := by
    intro e he
    simp only [tab, List.mem_cons, List.mem_nil_iff, or_false] at he
    rcases he with rfl | rfl | rfl | rfl | rfl | rfl | rfl | rfl | rfl
    · exact ⟨_, _, A0⟩
    · exact ⟨_, _, A1⟩
    · exact ⟨_, _, A2⟩
    · exact ⟨_, _, A3⟩
    · exact ⟨_, _, A4⟩
    · exact ⟨_, _, A5⟩
    · exact ⟨_, _, A6⟩
    · exact ⟨_, _, A7⟩
    · exact ⟨_, _, A8⟩
  have hB : ∀ x ∈ Bs, mg x = none := by
    intro x hx
    simp only [Bs, List.mem_cons, List.mem_nil_iff, or_false] at hx
    rcases hx with rfl | rfl | rfl | rfl | rfl | rfl | rfl | rfl | rfl | rfl
    · exact PySem.W.mg_none_of X G z0
    · exact PySem.W.mg_none_of X G z1
    · exact PySem.W.mg_none_of X G z2
    · exact PySem.W.mg_none_of X G z3
    · exact PySem.W.mg_none_of X G z4
    · exact PySem.W.mg_none_of X G z5
    · exact PySem.W.mg_none_of X G z6
    · exact PySem.W.mg_none_of X G z7
    · exact PySem.W.mg_none_of X G z8
    · exact PySem.W.mg_none_of X G z9
  have hG : ∀ x v, gl x = some v → ∃ u w', mg x = some u ∧ RelV w' u ∧ ∀ ρ H, Rep K ρ H v w' := by
    intro x v hv
    unfold gl at hv
    cases hv
  exact ⟨PySem.W.fnOf "law" "law" (defArgs s_law) (defBody s_law) (defScope s_law) .none kV8 dc8 pm8 an8 cd8 ct8, fun s v => .of_eq rfl, fun base _ _ => program_ok nd_tab ok_all hA hB hG dd e_law (by simp [tab]) _ _ A8⟩
end K83

set_option maxHeartbeats 1000000
namespace K83
open PySem PySem.Spec PyProof.Rows L2 Mn Mn.FF
local macro_rules | `(tactic| walk_at "ev") => `(tactic| try simp only [bind_assoc, evSs, evS, evE, evEs, evTs, List.getElem?_cons_zero, List.getElem?_cons_succ, List.set_cons_succ, List.set_cons_zero, bind_val, asgT, asgTs, Option.map_some, Option.bind_some, ofO_some, ofB_some, bn_add, bn_sub, cm_eq, cm_ne, cm_lt, cm_le, cm_gt, cm_ge, tru_bl, tru_int, int_int, int_bl, len_tup, max_int, min_int])
def good (v : MV) : Prop := ∃ n ts, v = webV n ts ∧ 1 ≤ n ∧ n ≤ 9 ∧ ts.length ≤ 16 ∧ ∀ t ∈ ts, tieOk n t
theorem hD (d : Nat) : CallD (run (d + 1) "_law_draw") := draw_call g__law_draw (by decide)
theorem hP (d : Nat) : CallP (run (d + 2) "_law_price") := price_call g__law_price (hD d)
theorem hW (d : Nat) : CallW (run (d + 3) "_law_web") := web_call g__law_web (hD (d + 1)) (hP d)
def turnB : List MS := [
    .asg (.nm 4) (.blt .repr [.var 3]),
    .asg (.nm 5) (.call "most_cut" [.var 3]),
    .asg (.nm 6) (.call "_law_most" [.var 3]),
    .ite (.or_ (.not_ (.isi (.var 5) .tuple)) (.or_ (.cmp .NotEq (.blt .len [.var 5]) (.c (.int 2))) (.or_ (.cmp .NotEq (.blt .repr [.ix (.var 5) (.c (.int 1))]) (.blt .repr [.var 6])) (.cmp .NotEq (.blt .repr [.var 3]) (.var 4))))) [
      .ret (.c (.bl false))] [],
    .asg (.nm 7) (.ix (.var 5) (.c (.int 0))),
    .asg (.nm 8) (.lc (.var 9) (.nm 9) .rng1 (.ix (.var 3) (.c (.int 0))) (.c .non) [.cmp .In (.var 9) (.var 7)] [9]),
    .ite (.or_ (.not_ (.isi (.var 7) .tuple)) (.cmp .NotEq (.blt .repr [.blt .list [.var 7]]) (.blt .repr [.var 8]))) [
      .ret (.c (.bl false))] [],
    .ite (.cmp .NotEq (.call "_law_weight" [.var 3, .var 7]) (.var 6)) [
      .ret (.c (.bl false))] []]
theorem turn_ok {d : Nat} {v : MV} {h : MH} (hv : good v) {a b c x4 x5 x6 x7 x8 : Option MV} :
    Ev (evSs ⟨run (d + 5), gl, fuel⟩ turnB [a, b, c, some v, x4, x5, x6, x7, x8, none] h) fun fl h' => ∃ y4 y5 y6 y7 y8 J, fl = .nx [a, b, c, some v, y4, y5, y6, y7, y8, none] ∧ h' = h ++ J := by
  obtain ⟨n, ts, rfl, hn, hn2, hts, ok⟩ := hv
  have hl : ts.length ≤ lineM := by simp only [lineM]; omega
  obtain ⟨w1, w2, w3⟩ := web_okV (n := n) (ts := ts) (by omega) ok (by omega)
  obtain ⟨S, w, em, b1⟩ := mostCut_call (gl := gl) (W' := fuel) (h := h) (f := "most_cut") (wf := "weight_of") g_most_cut (weight_call (d := d + 3) g_weight_of) hn (by omega) hl ok
  obtain ⟨w', el, b2⟩ := most_call (gl := gl) (W' := fuel) (h := h) (f := "_law_most") (wf := "_law_weight") g__law_most (weight_call (d := d + 3) g__law_weight) hn (by omega) hl ok
  obtain rfl : w = w' := best_most hn ok b1 b2
  obtain ⟨⟨j, hj, rfl, hw⟩, _⟩ := b1
  have ew : cutW ts (fun x => decide (x ∈ sideOf n j)) = w := by rw [hw]; exact cut_of ok
  have wb := cutW_le (q := fun x => decide (x ∈ sideOf n j)) ts ok
  rw [ew] at wb
  have em : (run (d + 5)) "most_cut" [webV n ts] h = .ok (.tup [.tup (nats (sideOf n j)), .int w]) h := em
  have el : (run (d + 5)) "_law_most" [webV n ts] h = .ok (.int w) h := el
  have i0 : ∀ h, ixM (.tup [.tup (nats (sideOf n j)), .int w]) (.int 0) h = .ok (.tup (nats (sideOf n j))) h := fun h => ix_tup (k := 0) rfl
  have i1 : ∀ h, ixM (.tup [.tup (nats (sideOf n j)), .int w]) (.int 1) h = .ok (.int w) h := fun h => ix_tup (k := 1) rfl
  have r1 : ∀ h, bltM .repr [webV n ts] h = .ok (.str (tr (webV n ts)).shown) h := fun h => repr_ok w1 w2 w3
  have r2 : ∀ h, bltM .repr [.int w] h = .ok (.str (tr (.int w)).shown) h := fun h => repr_ok (by simp only [okV, decide_eq_true_eq]; omega) (by simp [dpV]) (by simp [szV, lineM])
  have t1 : ∀ xs h, isiM (.tup xs) .tuple h = some true := fun xs h => rfl
  unfold turnB
  walk_at "ev"
  try simp only [r1, em, el, t1, i0, i1, r2]
  walk_at "ev"
  try simp only [r1, em, el, t1, i0, i1, r2]
  walk_at "ev"
  try simp only [r1, em, el, t1, i0, i1, r2, Bool.not_true]
  walk_at "ev"
  have hlen : ∀ x y : MV, (!((([x, y] : List MV).length : Int) == 2)) = false := fun _ _ => rfl
  try simp only [hlen, r2]
  walk_at "ev"
  try simp only [cm_neS, decide_true, Bool.not_true]
  walk_at "ev"
  try simp only [r1]
  walk_at "ev"
  try simp only [cm_neS, decide_true, Bool.not_true]
  walk_at "ev"
  try simp only [i0]
  walk_at "ev"
  try simp only [web_0]
  walk_at "ev"
  have e2 : ∀ h, itM .rng1 (.int (n : Int)) .non h = some (.fix (nats (List.range n))) := fun h => it_rng (by omega)
  try simp only [e2, It.items]
  rw [comp_filter (q := fun x => decide (x ∈ sideOf n j)) ?_ (by simp [lineM]; omega)]
  · rw [rising_side hn]
    walk_at "ev"
    try simp only [newO]
    walk_at "ev"
    try simp only [t1]
    walk_at "ev"
    try simp only [Bool.not_true]
    walk_at "ev"
    try simp only [lst_tup]
    walk_at "ev"
    have on : okVs (nats (sideOf n j)) = true ∧ dpVs (nats (sideOf n j)) = 0 ∧ szVs (nats (sideOf n j)) = 22 * (sideOf n j).length := ok_nats _ fun p hp => by
      have := List.mem_range'.mp (List.mem_filter.mp hp).1
      omega
    have sl : (sideOf n j).length ≤ n - 1 := by
      have := List.length_filter_le (fun p => j.testBit (p - 1)) (List.range' 1 (n - 1))
      rw [List.length_range'] at this
      exact this
    have q1 : lsts ((h ++ [MO.lst (nats (sideOf n j))]) ++ [MO.lst (nats (sideOf n j))]) (h ++ [MO.lst (nats (sideOf n j))]).length = some (nats (sideOf n j)) := lsts_new
    have q2 : lsts ((h ++ [MO.lst (nats (sideOf n j))]) ++ [MO.lst (nats (sideOf n j))]) h.length = some (nats (sideOf n j)) := by
      simp [lsts]
    rw [repr_lst q1 on.1 (by omega) (by simp only [lineM]; omega)]
    walk_at "ev"
    rw [repr_lst q2 on.1 (by omega) (by simp only [lineM]; omega)]
    walk_at "ev"
    try simp only [cm_neS, decide_true, Bool.not_true]
    walk_at "ev"
    have ewt : ∀ h, (run (d + 5)) "_law_weight" [webV n ts, .tup (nats (sideOf n j))] h = .ok (.int w) h := fun h => by
      rw [← ew]
      exact weight_call (d := d + 4) g__law_weight h n ts _ _ (fun x => in_nats) hl
    try simp only [ewt]
    walk_at "ev"
    simp only [beq_self_eq_true, Bool.not_true]
    exact .ok ⟨_, _, _, _, _, _, rfl, List.append_assoc ..⟩
  · intro p hp
    simp only [lcStep, wipeM, asgT, evTs, evE, List.getElem?_cons_zero, List.getElem?_cons_succ, List.set_cons_succ, List.set_cons_zero, bind_val, nV, cm_in, in_nats, ofB_some, tru_bl]
    cases decide (p ∈ sideOf n j) <;> rfl
theorem law_ev {ns : List Int} (hn : ns.length ≤ 63) : Ev (run 60 "law" [.ref 0] [.fro (ns.map .int)]) fun v h' => v = .bl true := by
  refine run_ev g_law rfl ?_
  have hb : b_law = [
    .asg (.nm 1) (.call "_law_feed" [.var 0]),
    .asg (.nm 2) (.lst [.call "_law_web" [.var 1, .c (.int 9), .c (.int 16)], .call "_law_web" [.var 1, .c (.int 4), .c (.int 6)], .call "_law_web" [.var 1, .c (.int 5), .c (.int 9)]]),
    .for_ (.nm 3) .val (.bin .Add (.var 2) (.slH (.var 2) (.c (.int 1)))) (.c .non) turnB,
    .ret (.c (.bl true))] := rfl
  simp only [hb, List.map_cons, List.map_nil, List.replicate, List.cons_append, List.nil_append]
  have hf : run 59 "_law_feed" [.ref 0] [.fro (ns.map .int)] = .ok (.ref 7) (heap0 ns) := feed_call g__law_feed hn
  have hw : CallW (run 59 "_law_web") := hW 56
  walk_at "ev"
  simp only [hf]
  walk_at "ev"
  refine .bind ((hw (heap0 ns) 9 16 (feed_stands hn) (by decide) (by decide) (by decide)).imp ?_)
  rintro _ h1 ⟨n1, t1, rfl, a1, b1, c1, d1, f1⟩
  walk_at "ev"
  refine .bind ((hw h1 4 6 f1.2.1 (by decide) (by decide) (by decide)).imp ?_)
  rintro _ h2 ⟨n2, t2, rfl, a2, b2, c2, d2, f2⟩
  walk_at "ev"
  refine .bind ((hw h2 5 9 f2.2.1 (by decide) (by decide) (by decide)).imp ?_)
  rintro _ h3 ⟨n3, t3, rfl, a3, b3, c3, d3, f3⟩
  simp only [newO, bind_val]
  generalize hx : [webV n1 t1, webV n2 t2, webV n3 t3] = xs
  have p1 : (h3 ++ [MO.lst xs])[h3.length]? = some (.lst xs) := get_new
  have s1 : slM (.ref h3.length) none (some 1) (h3 ++ [MO.lst xs]) = .ok (.ref (h3 ++ [MO.lst xs]).length) ((h3 ++ [MO.lst xs]) ++ [.lst [webV n1 t1]]) := sl_h1 (xs := [webV n2 t2, webV n3 t3]) (by rw [hx]; exact lsts_lst p1)
  rw [s1]
  simp only [bind_val]
  have p2 : ((h3 ++ [MO.lst xs]) ++ [MO.lst [webV n1 t1]])[h3.length]? = some (.lst xs) := by rw [List.getElem?_append_left (by simp)]; exact p1
  rw [bn_addL p2 get_new (by rw [← hx]; simp [lineM])]
  simp only [bind_val]
  generalize hh : (h3 ++ [MO.lst xs]) ++ [MO.lst [webV n1 t1]] = h4
  have p3 : lsts (h4 ++ [MO.lst (xs ++ [webV n1 t1])]) h4.length = some (xs ++ [webV n1 t1]) := lsts_new
  have p4 : itM .val (.ref h4.length) .non (h4 ++ [MO.lst (xs ++ [webV n1 t1])]) = some (.live h4.length) := by simp only [itM, p3, Option.map_some]
  simp only [p4, It.items, p3]
  have hg : ∀ v ∈ xs ++ [webV n1 t1], good v := by
    subst hx
    intro v hv
    simp only [List.cons_append, List.nil_append, List.mem_cons, List.mem_nil_iff, or_false] at hv
    rcases hv with rfl | rfl | rfl | rfl
    · exact ⟨n1, t1, rfl, a1, b1, c1, d1⟩
    · exact ⟨n2, t2, rfl, a2, by omega, by omega, d2⟩
    · exact ⟨n3, t3, rfl, a3, by omega, by omega, d3⟩
    · exact ⟨n1, t1, rfl, a1, b1, c1, d1⟩
  refine .bind ((for_it (it := .live h4.length) (xs := xs ++ [webV n1 t1]) (fun i σ h' => ∃ x3 x4 x5 x6 x7 x8 J, σ = [some (.ref 0), some (.ref 7), some (.ref h3.length), x3, x4, x5, x6, x7, x8, none] ∧ h' = (h4 ++ [MO.lst (xs ++ [webV n1 t1])]) ++ J)
    ⟨none, none, none, none, none, none, [], rfl, by simp⟩ ?_ ?_).imp ?_)
  · rintro i σ h' ⟨x3, x4, x5, x6, x7, x8, J, rfl, rfl⟩
    simp only [It.items, lsts]
    rw [List.getElem?_append_left (by simp), get_new]
  · rintro i v σ h' hi ⟨x3, x4, x5, x6, x7, x8, J, rfl, rfl⟩
    simp only [forStep]
    walk_at "ev"
    refine (turn_ok (d := 54) (hg v (List.mem_of_getElem? hi))).imp ?_
    rintro fl h' ⟨y4, y5, y6, y7, y8, J', rfl, rfl⟩
    exact ⟨_, rfl, _, _, _, _, _, _, _, rfl, List.append_assoc ..⟩
  · rintro fl h' ⟨_, rfl, x3, x4, x5, x6, x7, x8, J, rfl, rfl⟩
    exact .ok (trim_any rfl)
theorem law_run : ∀ ns : List Int, ns.length ≤ 63 → ∃ mh', run 60 "law" [.ref 0] [.fro (ns.map .int)] = .ok (.bl true) mh' := by
  intro ns hn
  obtain ⟨v, h, e, rfl⟩ := law_ev hn
  exact ⟨h, e⟩
end K83

open PySem PySem.W PyProof.Rows
set_option maxHeartbeats 0 in
theorem PySem.Challenge.cw_oddjoins_k83_most_weighty_sides_holds : PySem.Challenge.rw_oddjoins_k83_most_weighty_sides.Holds := by
  w_on; o_law; k_head; (case hw => w_witness2)
  k_fill
  refine Mn.walk_mini (l := PySem.Challenge.rw_oddjoins_k83_most_weighty_sides) (n := 63) (k := 60) (x := "_law_script") (call := K83.run 60) rfl (by decide) rfl ⟨rfl, by decide, by decide⟩ (fun w h Y => PySem.W.kIn_of Y) K83.law_run ?F
  case F =>
    intro w mg fa h KX G hmg
    refine' K83.all_mk KX G hmg ?a0 ?l0 ?c0 ?k0 ?a1 ?l1 ?c1 ?k1 ?a2 ?l2 ?c2 ?k2 ?a3 ?l3 ?c3 ?k3 ?a4 ?l4 ?c4 ?k4 ?a5 ?l5 ?c5 ?k5 ?a6 ?l6 ?c6 ?k6 ?a7 ?l7 ?c7 ?k7 ?a8 ?l8 ?c8 ?k8 ?z0 ?z1 ?z2 ?z3 ?z4 ?z5 ?z6 ?z7 ?z8 ?z9
    (case a0 => k_is)
    (case l0 => k_is)
    (case c0 => k_is)
    (case k0 => k_is)
    (case a1 => k_is)
    (case l1 => k_is)
    (case c1 => k_is)
    (case k1 => k_is)
    (case a2 => k_is)
    (case l2 => k_is)
    (case c2 => k_is)
    (case k2 => k_is)
    (case a3 => k_is)
    (case l3 => k_is)
    (case c3 => k_is)
    (case k3 => k_is)
    (case a4 => k_is)
    (case l4 => k_is)
    (case c4 => k_is)
    (case k4 => k_is)
    (case a5 => k_is)
    (case l5 => k_is)
    (case c5 => k_is)
    (case k5 => k_is)
    (case a6 => k_is)
    (case l6 => k_is)
    (case c6 => k_is)
    (case k6 => k_is)
    (case a7 => k_is)
    (case l7 => k_is)
    (case c7 => k_is)
    (case k7 => k_is)
    (case a8 => k_is)
    (case l8 => k_is)
    (case c8 => k_is)
    (case k8 => k_is)
    (case z0 => k_is)
    (case z1 => k_is)
    (case z2 => k_is)
    (case z3 => k_is)
    (case z4 => k_is)
    (case z5 => k_is)
    (case z6 => k_is)
    (case z7 => k_is)
    (case z8 => k_is)
    (case z9 => k_is)

