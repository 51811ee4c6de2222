import PyProof.Rows.All
import HandS.ForMost
import HandS.ForExc
import HandS.Deep
import HandS.Style
import HandS.Flow
import HandS.StrMore
import HandS.IsInst
import HandS.Conv
import HandS.Wide
import HandS.TupMul
import HandS.Zip
import HandS.SetKeys
import KE.KRevSl
import HandS.TupLe
import KE.IntTextLaws
import HandS.Replace
import PyProof.Rows.StrFromFirst
import HandS.WordsExc
import KE.GoesMore
import HandS.More
import PySem.Challenge.RW_listmarks_k02_whole_texts_read
section
/-! BA: data, terms, the evaluator (plain Lean, no program in sight). -/
namespace B
abbrev Txt := List Nat
abbrev DKey := Sum Int Txt
/-- scalars, as a dict's values -/
inductive Sc where
  | non | bl (b : Bool) | int (i : Int) | str (s : Txt)
  deriving DecidableEq
inductive D where
  | non | bl (b : Bool) | int (i : Int) | str (s : Txt)
  | tup (xs : List D) | lst (xs : List D)
  | dct (kvs : List (DKey × Sc))
  | ins (c : Nat) (fs : List D)
  | obj (n : Nat)
  | fn (n : Nat) (cs : List D)
  | scr (xs : List Int)
def Sc.d : Sc → D
  | .non => .non | .bl b => .bl b | .int i => .int i | .str s => .str s
def D.sc : D → Option Sc
  | .non => some .non | .bl b => some (.bl b) | .int i => some (.int i) | .str s => some (.str s)
  | _ => none
def D.key : D → Option DKey
  | .int i => some (.inl i) | .str s => some (.inr s) | _ => none
def DKey.d : DKey → D
  | .inl i => .int i | .inr s => .str s
/-- how a value stands: a peek at an own slot; frozen; fresh -/
inductive Kd where
  | al | fz | ex
  deriving DecidableEq
structure R where
  d : D
  k : Kd
/-- how a value is handed in: what is fresh is frozen -/
def R.pass (r : R) : R := ⟨r.d, if r.k = .al then .al else .fz⟩
abbrev Objs := List (List D)
inductive Rs (α : Type) where
  | ok (a : α) (o : Objs) | exc (c : Nat) (o : Objs) | bad
def Rs.bind {α β : Type} : Rs α → (α → Objs → Rs β) → Rs β
  | .ok a o, f => f a o
  | .exc c o, _ => .exc c o
  | .bad, _ => .bad
inductive Slot where
  | none | val (r : R) | own (xs : List D) | ownd (kvs : List (DKey × Sc))
abbrev Env := List Slot
def bigL : Nat := 1000000

/-! ### operators -/
inductive Op where
  | addI | subI | mulI | fdivI | modI | powI
  | addS | mulS | addL | repL | repT
  | eqD | neD | ltI | leI | gtI | geI
  | isN | notN | isB | notB
  | inS | notInS | inQ | notInQ
  | add | mul | is_ | isNot | in_ | notIn
  deriving DecidableEq
/-- Python's == of data without dicts, instances -/
def D.eqv : D → D → Bool
  | .non, .non => true
  | .bl a, .bl b => a == b
  | .bl a, .int b => (if a then 1 else 0) == b
  | .int a, .bl b => a == (if b then 1 else 0)
  | .int a, .int b => a == b
  | .str a, .str b => a == b
  | .lst xs, .lst ys => go xs ys
  | .tup xs, .tup ys => go xs ys
  | _, _ => false
where go : List D → List D → Bool
  | [], [] => true
  | x :: xs, y :: ys => x.eqv y && go xs ys
  | _, _ => false
/-- made of None, bools, ints, texts, lists, tuples, no deeper than n -/
def D.pl : Nat → D → Bool
  | 0, _ => false
  | n + 1, d => match d with
    | .non => true | .bl _ => true | .int _ => true | .str _ => true
    | .tup xs => xs.all (D.pl n) | .lst xs => xs.all (D.pl n)
    | _ => false
def D.isSc : D → Bool
  | .non => true | .bl _ => true | .int _ => true | .str _ => true | _ => false
def D.mt : D → Bool
  | .lst _ => true | .dct _ => true | _ => false
def D.isNon : D → Bool
  | .non => true | _ => false
def D.items : D → Option (List D)
  | .lst xs => some xs | .tup xs => some xs | _ => none
def Op.ev : Op → D → D → Option D
  | .addI, .int i, .int j => some (.int (i + j))
  | .subI, .int i, .int j => some (.int (i - j))
  | .mulI, .int i, .int j => if i.natAbs < 2 ^ 600 && j.natAbs < 2 ^ 600 then some (.int (i * j)) else none
  | .fdivI, .int i, .int j => if 0 < j && j.natAbs < 2 ^ 600 then some (.int (i / j)) else none
  | .modI, .int i, .int j => if 0 < j then some (.int (i % j)) else none
  | .powI, .int i, .int j => if 0 ≤ j && j ≤ 1000 && i.natAbs < 2 ^ 60 then some (.int (i ^ j.toNat)) else none
  | .addS, .str i, .str j => if i.length + j.length ≤ bigL then some (.str (i ++ j)) else none
  | .mulS, .str i, .int j => if 0 ≤ j && j ≤ 1000000 && i.length * j.toNat ≤ bigL then some (.str (List.replicate j.toNat i).flatten) else none
  | .addL, .lst i, .lst j => if i.length + j.length ≤ bigL then some (.lst (i ++ j)) else none
  | .repL, .lst i, .int j => if 0 ≤ j && j ≤ 1000 && i.length ≤ 1000 then some (.lst (List.replicate j.toNat i).flatten) else none
  | .repT, .tup i, .int j => if 2 ≤ j && j ≤ 1000 && i.length ≤ 1000 && !i.isEmpty then some (.tup (List.replicate j.toNat i).flatten) else none
  | .eqD, .scr xs, .lst [] => some (.bl xs.isEmpty)
  | .neD, .scr xs, .lst [] => some (.bl (!xs.isEmpty))
  | .eqD, a, b => if a.pl 60 && b.pl 60 then some (.bl (a.eqv b)) else none
  | .neD, a, b => if a.pl 60 && b.pl 60 then some (.bl (!a.eqv b)) else none
  | .ltI, .int i, .int j => some (.bl (decide (i < j)))
  | .leI, .int i, .int j => some (.bl (decide (i ≤ j)))
  | .gtI, .int i, .int j => some (.bl (decide (j < i)))
  | .geI, .int i, .int j => some (.bl (decide (j ≤ i)))
  | .isN, a, .non => some (.bl a.isNon)
  | .notN, a, .non => some (.bl (!a.isNon))
  | .isB, .bl a, .bl b => some (.bl (decide (a = b)))
  | .notB, .bl a, .bl b => some (.bl (!decide (a = b)))
  | .inS, .str [c], .str t => some (.bl (t.contains c))
  | .notInS, .str [c], .str t => some (.bl (!t.contains c))
  | .inQ, a, b => match b.items with
    | some xs => if a.isSc && xs.all D.isSc then some (.bl (xs.any fun y => y.eqv a)) else none
    | none => none
  | .notInQ, a, b => match b.items with
    | some xs => if a.isSc && xs.all D.isSc then some (.bl (!xs.any fun y => y.eqv a)) else none
    | none => none
  | .add, .int i, .int j => some (.int (i + j))
  | .add, .str i, .str j => if i.length + j.length ≤ bigL then some (.str (i ++ j)) else none
  | .add, .lst i, .lst j => if i.length + j.length ≤ bigL then some (.lst (i ++ j)) else none
  | .mul, .int i, .int j => if i.natAbs < 2 ^ 600 && j.natAbs < 2 ^ 600 then some (.int (i * j)) else none
  | .mul, .str i, .int j => if 0 ≤ j && j ≤ 1000000 && i.length * j.toNat ≤ bigL then some (.str (List.replicate j.toNat i).flatten) else none
  | .mul, .lst i, .int j => if 0 ≤ j && j ≤ 1000 && i.length ≤ 1000 then some (.lst (List.replicate j.toNat i).flatten) else none
  | .mul, .tup i, .int j => if 2 ≤ j && j ≤ 1000 && i.length ≤ 1000 && !i.isEmpty then some (.tup (List.replicate j.toNat i).flatten) else none
  | .is_, a, .non => some (.bl a.isNon)
  | .is_, .bl a, .bl b => some (.bl (decide (a = b)))
  | .isNot, a, .non => some (.bl (!a.isNon))
  | .isNot, .bl a, .bl b => some (.bl (!decide (a = b)))
  | .in_, .str s, .str t => match s with
    | [c] => some (.bl (t.contains c))
    | _ => none
  | .in_, a, b => match b.items with
    | some xs => if a.isSc && xs.all D.isSc then some (.bl (xs.any fun y => y.eqv a)) else none
    | none => none
  | .notIn, .str s, .str t => match s with
    | [c] => some (.bl (!t.contains c))
    | _ => none
  | .notIn, a, b => match b.items with
    | some xs => if a.isSc && xs.all D.isSc then some (.bl (!xs.any fun y => y.eqv a)) else none
    | none => none
  | _, _, _ => none
def Op.kd : Op → D → Kd
  | .addL, _ => .ex | .repL, _ => .ex | .add, .lst _ => .ex | .mul, .lst _ => .ex | _, _ => .fz

/-! ### indices, slices -/
def ixN (n : Nat) (i : Int) : Option Nat := if 0 ≤ i then (if i < n then some i.toNat else none) else if -(n : Int) ≤ i then some (i + n).toNat else none
def atI {α : Type} (xs : List α) (i : Int) : Option α := (ixN xs.length i).bind fun j => xs[j]?
/-- a slice's bound -/
def sIx (n dflt : Nat) : Option Int → Nat
  | none => dflt
  | some i => if i < 0 then (i + n).toNat else min i.toNat n
def cut {α : Type} (xs : List α) (lo hi : Option Int) : List α :=
  (xs.drop (sIx xs.length 0 lo)).take (sIx xs.length xs.length hi - sIx xs.length 0 lo)
def third {α : Type} : List α → List α
  | a :: _ :: _ :: r => a :: third r
  | a :: _ => [a]
  | [] => []

/-! ### texts -/
def joinT (sep : Txt) : List Txt → Txt
  | [] => []
  | [x] => x
  | x :: r => x ++ sep ++ joinT sep r
/-- parted at each c -/
def splitT (c : Nat) : Txt → List Txt
  | [] => [[]]
  | x :: r => if x = c then [] :: splitT c r else match splitT c r with
    | y :: ys => (x :: y) :: ys
    | [] => [[x]]
def txts : List D → Option (List Txt)
  | [] => some []
  | .str s :: r => (txts r).map fun t => s :: t
  | _ => none
def bls : List D → Option (List Bool)
  | [] => some []
  | .bl s :: r => (bls r).map fun t => s :: t
  | _ => none
def intsD : List D → Option (List Int)
  | [] => some []
  | .int s :: r => (intsD r).map fun t => s :: t
  | _ => none
/-- a number's figures -/
def figs (n : Nat) : Txt := (Nat.toDigits 10 n).map Char.toNat
def strI (i : Int) : Txt := if i < 0 then 45 :: figs i.natAbs else figs i.natAbs
def allFigs (t : Txt) : Bool := t.all fun c => 48 ≤ c && c ≤ 57
def numT (t : Txt) : Nat := t.foldl (fun a c => 10 * a + (c - 48)) 0

/-! ### dicts -/
def dget (kvs : List (DKey × Sc)) (k : DKey) : Option Sc := (kvs.find? fun kv => decide (kv.1 = k)).map (·.2)
def dput (kvs : List (DKey × Sc)) (k : DKey) (v : Sc) : List (DKey × Sc) :=
  if (kvs.any fun kv => decide (kv.1 = k)) = true then kvs.map (fun kv => if kv.1 = k then (kv.1, v) else kv) else kvs ++ [(k, v)]
def dmerge (kvs more : List (DKey × Sc)) : List (DKey × Sc) := more.foldl (fun acc kv => dput acc kv.1 kv.2) kvs
def zipD : List D → List D → List D
  | x :: xs, y :: ys => .tup [x, y] :: zipD xs ys
  | _, _ => []
def zip3D : List D → List D → List D → List D
  | x :: xs, y :: ys, z :: zs => .tup [x, y, z] :: zip3D xs ys zs
  | _, _, _ => []
def enumD : Nat → List D → List D
  | _, [] => []
  | n, x :: xs => .tup [.int n, x] :: enumD (n + 1) xs
def pairsD : List D → List D → Option (List (DKey × Sc))
  | x :: xs, y :: ys => match x.key, y.sc, pairsD xs ys with
    | some k, some v, some r => some ((k, v) :: r)
    | _, _, _ => none
  | _, _ => some []
def rngD (lo : Int) (c : Int) : Nat → List D
  | 0 => []
  | n + 1 => .int lo :: rngD (lo + c) c n
def rngN (lo hi c : Int) : Nat := if 0 < c then ((hi - lo + c - 1) / c).toNat else 0
/-- order of texts -/
def ltT : Txt → Txt → Bool
  | [], [] => false
  | [], _ :: _ => true
  | _ :: _, [] => false
  | x :: xs, y :: ys => decide (x < y) || (decide (x = y) && ltT xs ys)
def insT (x : Txt) : List Txt → List Txt
  | [] => [x]
  | y :: r => if ltT x y then x :: y :: r else if x = y then y :: r else y :: insT x r
/-- sorted(set(..)) -/
def sortSet (xs : List Txt) : List Txt := xs.foldl (fun acc x => insT x acc) []
def dedup {α : Type} [DecidableEq α] : List α → List α
  | [] => []
  | x :: r => if x ∈ r then dedup r else x :: dedup r

/-! ### terms -/
inductive Ty where
  | int | str | bool | list | tuple | cls (c : Nat)
  deriving DecidableEq
/-- a built-in type's name; of plain data -/
def Ty.nm : Ty → String
  | .int => "int" | .str => "str" | .bool => "bool" | .list => "list" | .tuple => "tuple" | .cls _ => ""
def D.ty : D → Option String
  | .non => some "NoneType" | .bl _ => some "bool" | .int _ => some "int" | .str _ => some "str" | .tup _ => some "tuple" | .lst _ => some "list" | .dct _ => some "dict" | .scr _ => some "list"
  | _ => none
def tyB (d t : String) : Bool := d == t || (d == "bool" && t == "int")
def Ty.has (sub : Nat → Nat → Bool) (t : Ty) (d : D) : Option Bool := match t with
  | .cls c => match d with
    | .ins k _ => some (sub k c)
    | _ => d.ty.map fun _ => false
  | t => d.ty.map fun n => tyB n t.nm
inductive Bi where
  | len | abs | max | min | all | any | str | int | list | setLen | setSort | dictZip | listZip | keys | tuple
  deriving DecidableEq
def Bi.ev : Bi → List D → Option R
  | .len, [.lst xs] => some ⟨.int xs.length, .fz⟩
  | .len, [.scr xs] => some ⟨.int xs.length, .fz⟩
  | .len, [.tup xs] => some ⟨.int xs.length, .fz⟩
  | .len, [.str xs] => if xs.length ≤ bigL then some ⟨.int xs.length, .fz⟩ else none
  | .abs, [.int i] => some ⟨.int (if i < 0 then -i else i), .fz⟩
  | .max, [.int i, .int j] => some ⟨.int (if i < j then j else i), .fz⟩
  | .min, [.int i, .int j] => some ⟨.int (if j < i then j else i), .fz⟩
  | .all, [.lst xs] => (bls xs).map fun b => ⟨.bl (b.all id), .fz⟩
  | .any, [.lst xs] => (bls xs).map fun b => ⟨.bl (b.any id), .fz⟩
  | .str, [.int i] => if i.natAbs < 2 ^ 1000 then some ⟨.str (strI i), .fz⟩ else none
  | .int, [.str t] => if t.length ≤ 640 && t ≠ [] && allFigs t then some ⟨.int (numT t), .fz⟩ else none
  | .list, [.lst xs] => some ⟨.lst xs, .ex⟩
  | .setLen, [.lst xs] => (txts xs).map fun s => ⟨.int (dedup s).length, .fz⟩
  | .setSort, [.lst xs] => (txts xs).bind fun s => if s.length ≤ 60 then some ⟨.lst ((sortSet s).map D.str), .ex⟩ else none
  | .dictZip, [.lst xs, .lst ys] => if xs.length ≤ 1000 then (pairsD xs ys).map fun kvs => ⟨.dct (dmerge [] kvs), .ex⟩ else none
  | .listZip, [.lst xs, .lst ys] => some ⟨.lst (zipD xs ys), .ex⟩
  | .keys, [.dct kvs] => some ⟨.lst (kvs.map fun p => DKey.d p.1), .ex⟩
  | .tuple, [.lst xs] => if xs ≠ [] then some ⟨.tup xs, .fz⟩ else none
  | _, _ => none
inductive Mt where
  | split | join | starts | lstrip | indexS | indexL | count | get1 | get2
  deriving DecidableEq
def posOf (c : Nat) : Txt → Nat
  | [] => 0
  | x :: r => if x = c then 0 else posOf c r + 1
def posD (d : D) : List D → Nat
  | [] => 0
  | x :: r => if x.eqv d then 0 else posD d r + 1
def Mt.ev : Mt → D → List D → Option R
  | .split, .str t, [.str [c]] => if t.length ≤ bigL then some ⟨.lst ((splitT c t).map D.str), .ex⟩ else none
  | .join, .str t, [.lst xs] => (txts xs).bind fun s => if (s.map List.length).sum + s.length * t.length ≤ bigL then some ⟨.str (joinT t s), .fz⟩ else none
  | .starts, .str t, [.str u] => if t.length ≤ bigL && u.length ≤ bigL then some ⟨.bl (u.isPrefixOf t), .fz⟩ else none
  | .lstrip, .str t, [.str [c]] => if t.length ≤ bigL then some ⟨.str (t.dropWhile fun x => x == c), .fz⟩ else none
  | .indexS, .str t, [.str [c]] => if t.contains c && decide (t.length ≤ bigL) then some ⟨.int (posOf c t), .fz⟩ else none
  | .indexL, .lst xs, [d] => if d.isSc && xs.all D.isSc && xs.any (fun y => y.eqv d) then some ⟨.int (posD d xs), .fz⟩ else none
  | .count, .lst xs, [.str c] => (txts xs).map fun s => ⟨.int (s.count c), .fz⟩
  | .get1, .dct kvs, [d] => d.key.map fun k => ⟨((dget kvs k).getD .non).d, .fz⟩
  | .get2, .dct kvs, [d, e] => d.key.bind fun k => e.sc.map fun x => ⟨((dget kvs k).getD x).d, .fz⟩
  | _, _, _ => none
/-- is it of the method's type -/
def Mt.rcv : Mt → D → Bool
  | .split, .str _ => true | .join, .str _ => true | .starts, .str _ => true | .lstrip, .str _ => true | .indexS, .str _ => true
  | .indexL, .lst _ => true | .count, .lst _ => true | .get1, .dct _ => true | .get2, .dct _ => true
  | _, _ => false
def idxEv : D → D → Option R
  | .lst xs, .int i => (atI xs i).map fun d => ⟨d, .fz⟩
  | .scr xs, .int i => (atI xs i).map fun d => ⟨.int d, .fz⟩
  | .tup xs, .int i => (atI xs i).map fun d => ⟨d, .fz⟩
  | .str s, .int i => if s.length ≤ bigL then (atI s i).map fun c => ⟨.str [c], .fz⟩ else none
  | _, _ => none
def didxEv : D → D → Option R
  | .dct kvs, d => d.key.bind fun k => (dget kvs k).map fun v => ⟨v.d, .fz⟩
  | _, _ => none
def ixEv (x y : D) : Option R := match x with
  | .dct _ => didxEv x y
  | _ => idxEv x y
def slEv : D → Option Int → Option Int → Option R
  | .lst xs, l, h => some ⟨.lst (cut xs l h), .ex⟩
  | .scr xs, l, h => some ⟨.lst ((cut xs l h).map D.int), .ex⟩
  | .str s, l, h => if s.length ≤ bigL then some ⟨.str (cut s l h), .fz⟩ else none
  | .tup xs, l, h => if sIx xs.length 0 l = 0 ∧ sIx xs.length xs.length h = xs.length then none else some ⟨.tup (cut xs l h), .fz⟩
  | _, _, _ => none
/-- a target: a name, or names in a tuple -/
inductive Tg where
  | one (i : Nat) | many (is : List Nat)
mutual
inductive E where
  | hole
  | var (i : Nat) | int (i : Int) | str (s : Txt) | bl (b : Bool) | non
  | glb (j : Nat)
  | op (o : Op) (a b : E)
  | neg (a : E)
  | chain (o p : Op) (a b c : E)
  | and (a b : E) | or (a b : E) | one (a : E) | not (a : E)
  | ife (c a b : E)
  | call (f : Nat) (as : Es)
  | bi (b : Bi) (as : Es)
  | isi (a : E) (t : Ty)
  | mt (m : Mt) (o : E) (as : Es)
  | idx (a i : E) | didx (a i : E) | ix (a i : E)
  | sl (a lo hi : E)
  | sl3 (a lo : E) | rev (a : E)
  | lst (as : Es) | tup (as : Es)
  | lc (elt : E) (tg : Tg) (it : It) (c : E)
  | dlit (kvs : List (Txt × Int))
  | fld (a : E) (c j : Nat)
  | mk (c : Nat) (as : Es)
  | meth (a : E) (m : Nat) (as : Es)
inductive Es where
  | nil | cons (e : E) (r : Es)
inductive It where
  | lst (e : E) | tup (e : E) | str (e : E)
  | rng1 (a : E) | rng2 (a b : E) | rng3 (a b c : E)
  | enum (e : E) | zip (a b : E) | zip3 (a b c : E) | zipS (a b : E)
  | any (e : E) | zipA (a b : E)
end
/-- the slot that a name peeks at -/
def E.slot : E → List Nat
  | .var i => [i]
  | _ => []
def Es.len : Es → Nat
  | .nil => 0
  | .cons _ r => r.len + 1
def E.isHole : E → Bool
  | .hole => true
  | _ => false
/-- a list that is walked: a peek must be a name's -/
def itL (sl : List Nat) (x : R) : Option (List D) := match x.d with
  | .lst xs => if x.k = .al ∧ sl = [] then none else some xs
  | _ => none
/-- an optional int -/
def optI (h : Bool) (x : Rs R) (o : Objs) : Rs (Option Int) := if h then .ok none o else x.bind fun x o => match x.d with
  | .int i => .ok (some i) o
  | _ => .bad
/-- an optional test -/
def optB (h : Bool) (x : Rs R) (o : Objs) : Rs Bool := if h then .ok true o else x.bind fun x o => match x.d with
  | .bl b => .ok b o
  | _ => .bad
/-- what the evaluator is told of the program: defs, methods, classes made, constants, subclasses -/
structure Sg where
  fn : Nat → List R → Objs → Rs R
  ct : Nat → D
  sub : Nat → Nat → Bool
/-- a slot stored: the kind must fit, the slot not be walked -/
def put1 (lk : List Nat) (i : Nat) (ow : Bool) (r : R) (en : Env) : Option Env :=
  if lk.contains i || decide (en.length ≤ i) then none else
  if ow then match r.k, r.d with
    | .ex, .lst xs => some (en.set i (.own xs))
    | .ex, .dct kvs => some (en.set i (.ownd kvs))
    | _, _ => none
  else if r.k = .al then none else some (en.set i (.val ⟨r.d, .fz⟩))
def putVals (lk : List Nat) : List Nat → List D → Env → Option Env
  | [], [], en => some en
  | i :: is, d :: ds, en => (put1 lk i false ⟨d, .fz⟩ en).bind (putVals lk is ds)
  | _, _, _ => none
def putTg (lk : List Nat) (tg : Tg) (d : D) (en : Env) : Option Env :=
  match tg with
  | .one i => put1 lk i false ⟨d, .fz⟩ en
  | .many is => match d with
    | .tup xs => putVals lk is xs en
    | _ => none
def wipeTg (tg : Tg) (en : Env) : Env :=
  match tg with
  | .one i => en.set i .none
  | .many is => is.foldl (fun e i => e.set i .none) en
def tgIx : Tg → List Nat
  | .one i => [i]
  | .many is => is
/-- a comprehension's own slots hold no own thing -/
def tgFree (tg : Tg) (en : Env) : Bool := (tgIx tg).all fun i => match en[i]? with
  | some .none => true
  | some (.val _) => true
  | _ => false
def lcGo (f : D → Objs → Rs (Option D)) : List D → List D → Objs → Rs (List D)
  | [], acc, o => .ok acc o
  | d :: r, acc, o => (f d o).bind fun x o => match x with
    | some y => lcGo f r (acc ++ [y]) o
    | none => lcGo f r acc o
def Rs.noExc {α : Type} : Rs α → Rs α
  | .ok a o => .ok a o
  | _ => .bad
def ofO {α : Type} (o : Objs) : Option α → Rs α
  | some a => .ok a o
  | none => .bad
section
variable (G : Sg)
mutual
def E.ev : E → Env → Objs → Rs R
  | .hole, _, _ => .bad
  | .var i, en, o => match en[i]? with
    | some (.val r) => .ok r.pass o
    | some (.own xs) => .ok ⟨.lst xs, .al⟩ o
    | some (.ownd kvs) => .ok ⟨.dct kvs, .al⟩ o
    | _ => .bad
  | .int i, _, o => .ok ⟨.int i, .fz⟩ o
  | .str s, _, o => .ok ⟨.str s, .fz⟩ o
  | .bl b, _, o => .ok ⟨.bl b, .fz⟩ o
  | .non, _, o => .ok ⟨.non, .fz⟩ o
  | .glb j, _, o => .ok ⟨G.ct j, .fz⟩ o
  | .op p a b, en, o => (a.ev en o).bind fun x o => (b.ev en o).bind fun y o => ofO o ((p.ev x.d y.d).map fun d => ⟨d, p.kd d⟩)
  | .neg a, en, o => (a.ev en o).bind fun x o => match x.d with
    | .int i => .ok ⟨.int (-i), .fz⟩ o
    | _ => .bad
  | .chain p q a b c, en, o => (a.ev en o).bind fun x o => (b.ev en o).bind fun y o => match p.ev x.d y.d with
    | some (.bl true) => (c.ev en o).bind fun z o => ofO o ((q.ev y.d z.d).map fun d => ⟨d, .fz⟩)
    | some (.bl false) => .ok ⟨.bl false, .fz⟩ o
    | _ => .bad
  | .and a b, en, o => (a.ev en o).bind fun x o => match x.d with
    | .bl true => b.ev en o
    | .bl false => .ok ⟨.bl false, .fz⟩ o
    | _ => .bad
  | .or a b, en, o => (a.ev en o).bind fun x o => match x.d with
    | .bl true => .ok ⟨.bl true, .fz⟩ o
    | .bl false => b.ev en o
    | _ => .bad
  | .one a, en, o => a.ev en o
  | .not a, en, o => (a.ev en o).bind fun x o => match x.d with
    | .bl b => .ok ⟨.bl (!b), .fz⟩ o
    | _ => .bad
  | .ife c a b, en, o => (c.ev en o).bind fun x o => match x.d with
    | .bl true => a.ev en o
    | .bl false => b.ev en o
    | _ => .bad
  | .call f as, en, o => (as.ev en o).bind fun xs o => G.fn f (xs.map R.pass) o
  | .bi b as, en, o => (as.ev en o).bind fun xs o => ofO o (b.ev (xs.map (·.d)))
  | .isi a t, en, o => (a.ev en o).bind fun x o => ofO o ((t.has G.sub x.d).map fun b => ⟨.bl b, .fz⟩)
  | .mt m a as, en, o => (a.ev en o).bind fun x o => if m.rcv x.d = true then (as.ev en o).bind fun xs o => ofO o (m.ev x.d (xs.map (·.d))) else .bad
  | .idx a i, en, o => (a.ev en o).bind fun x o => (i.ev en o).bind fun y o => ofO o (idxEv x.d y.d)
  | .didx a i, en, o => (a.ev en o).bind fun x o => (i.ev en o).bind fun y o => ofO o (didxEv x.d y.d)
  | .ix a i, en, o => (a.ev en o).bind fun x o => (i.ev en o).bind fun y o => ofO o (ixEv x.d y.d)
  | .sl a lo hi, en, o => (a.ev en o).bind fun x o => (optI lo.isHole (lo.ev en o) o).bind fun l o => (optI hi.isHole (hi.ev en o) o).bind fun h o => ofO o (slEv x.d l h)
  | .sl3 a lo, en, o => (a.ev en o).bind fun x o => (lo.ev en o).bind fun l o => match x.d, l.d with
    | .lst xs, .int i => if 0 ≤ i then .ok ⟨.lst (third (xs.drop i.toNat)), .ex⟩ o else .bad
    | _, _ => .bad
  | .rev a, en, o => (a.ev en o).bind fun x o => match x.d with
    | .lst xs => .ok ⟨.lst xs.reverse, .ex⟩ o
    | _ => .bad
  | .lst as, en, o => (as.ev en o).bind fun xs o => if (xs.all fun x => decide (x.k ≠ .al)) && decide (xs.length ≤ bigL) then .ok ⟨.lst (xs.map (·.d)), .ex⟩ o else .bad
  | .tup as, en, o => (as.ev en o).bind fun xs o => if (xs.all fun x => decide (x.k ≠ .al)) && decide (xs.length ≤ bigL) then .ok ⟨.tup (xs.map (·.d)), .fz⟩ o else .bad
  | .lc e tg it c, en, o => (it.ev en o).bind fun x o => if decide (x.1.length ≤ bigL) && tgFree tg en then
      (lcGo (fun d o => match putTg [] tg d (wipeTg tg en) with
        | none => .bad
        | some en => ((optB c.isHole (c.ev en o) o).bind fun k o => if k then (e.ev en o).bind fun r o => if r.k ≠ .al then .ok (some r.d) o else .bad else .ok none o).noExc) x.1 [] o).bind fun ds o => .ok ⟨.lst ds, .ex⟩ o
      else .bad
  | .dlit kvs, _, o => .ok ⟨.dct (dmerge [] (kvs.map fun p => (.inr p.1, .int p.2))), .ex⟩ o
  | .fld a c j, en, o => (a.ev en o).bind fun x o => match x.d with
    | .ins k fs => if k = c then ofO o (fs[j]?.map fun d => ⟨d, .fz⟩) else .bad
    | .obj n => ofO o ((o[n]?.bind fun fs => fs[j]?).map fun d => ⟨d, .fz⟩)
    | _ => .bad
  | .mk f as, en, o => (as.ev en o).bind fun xs o => G.fn f (xs.map R.pass) o
  | .meth a f as, en, o => (a.ev en o).bind fun x o => (as.ev en o).bind fun xs o => G.fn f (x.pass :: xs.map R.pass) o
def Es.ev : Es → Env → Objs → Rs (List R)
  | .nil, _, o => .ok [] o
  | .cons e r, en, o => (e.ev en o).bind fun x o => (r.ev en o).bind fun xs o => .ok (x :: xs) o
def It.ev : It → Env → Objs → Rs (List D × List Nat)
  | .lst e, en, o => (e.ev en o).bind fun x o => ofO o ((itL e.slot x).map fun xs => (xs, e.slot))
  | .tup e, en, o => (e.ev en o).bind fun x o => match x.d with
    | .tup xs => .ok (xs, []) o
    | _ => .bad
  | .str e, en, o => (e.ev en o).bind fun x o => match x.d with
    | .str s => .ok (s.map fun c => .str [c], []) o
    | _ => .bad
  | .rng1 a, en, o => (a.ev en o).bind fun x o => match x.d with
    | .int n => if n ≤ 1000000 ∧ -1000000 ≤ n then .ok (rngD 0 1 n.toNat, []) o else .bad
    | _ => .bad
  | .rng2 a b, en, o => (a.ev en o).bind fun x o => (b.ev en o).bind fun y o => match x.d, y.d with
    | .int l, .int h => if -1000000 ≤ l ∧ l ≤ 1000000 ∧ -1000000 ≤ h ∧ h ≤ 1000000 then .ok (rngD l 1 (h - l).toNat, []) o else .bad
    | _, _ => .bad
  | .rng3 a b c, en, o => (a.ev en o).bind fun x o => (b.ev en o).bind fun y o => (c.ev en o).bind fun z o => match x.d, y.d, z.d with
    | .int l, .int h, .int c => if -1000000 ≤ l ∧ l ≤ 1000000 ∧ -1000000 ≤ h ∧ h ≤ 1000000 ∧ 0 < c ∧ c ≤ 1000 then .ok (rngD l c (rngN l h c), []) o else .bad
    | _, _, _ => .bad
  | .enum e, en, o => (e.ev en o).bind fun x o => ofO o ((itL e.slot x).map fun xs => (enumD 0 xs, e.slot))
  | .zip a b, en, o => (a.ev en o).bind fun x o => (b.ev en o).bind fun y o => ofO o ((itL a.slot x).bind fun xs => (itL b.slot y).map fun ys => (zipD xs ys, a.slot ++ b.slot))
  | .zip3 a b c, en, o => (a.ev en o).bind fun x o => (b.ev en o).bind fun y o => (c.ev en o).bind fun z o =>
      ofO o ((itL a.slot x).bind fun xs => (itL b.slot y).bind fun ys => (itL c.slot z).map fun zs => (zip3D xs ys zs, a.slot ++ b.slot ++ c.slot))
  | .zipS a b, en, o => (a.ev en o).bind fun x o => (b.ev en o).bind fun y o => match x.d, y.d with
    | .str xs, .str ys => .ok (zipD (xs.map fun c => .str [c]) (ys.map fun c => .str [c]), []) o
    | _, _ => .bad
  | .any e, en, o => (e.ev en o).bind fun x o => match x.d with
    | .tup xs => .ok (xs, []) o
    | .str s => .ok (s.map fun c => .str [c], []) o
    | _ => ofO o ((itL e.slot x).map fun xs => (xs, e.slot))
  | .zipA a b, en, o => (a.ev en o).bind fun x o => (b.ev en o).bind fun y o => match x.d, y.d with
    | .str xs, .str ys => .ok (zipD (xs.map fun c => .str [c]) (ys.map fun c => .str [c]), []) o
    | _, _ => ofO o ((itL a.slot x).bind fun xs => (itL b.slot y).map fun ys => (zipD xs ys, a.slot ++ b.slot))
end
end
/-! ### statements -/
mutual
inductive S where
  | set (i : Nat) (e : E)
  | own (i : Nat) (e : E)
  | par (ts : List (Nat × Bool)) (es : Es)
  | unp (is : List Nat) (e : E)
  | app (i : Nat) (e : E)
  | ext (i : Nat) (e : E)
  | pop (i : Nat)
  | popTo (j i : Nat) (k : E)
  | insert (i : Nat) (k e : E)
  | clear (i : Nat)
  | seti (i : Nat) (k e : E)
  | dset (i : Nat) (k e : E)
  | aug (i : Nat) (e : E)
  | ife (c : E) (a b : Ss)
  | for (tg : Tg) (it : It) (body : Ss)
  | whl (fuel : Nat) (c : E) (body : Ss)
  | ret (e : E) | retOwn (i : Nat) | retN
  | rse (c : Nat)
  | brk | cnt | pass
  | drop (e : E) | nev
inductive Ss where
  | nil | cons (s : S) (r : Ss) | frz (i : Nat) (r : Ss)
end
inductive Out where
  | next (en : Env) (o : Objs) | ret (r : R) (o : Objs) | brk (en : Env) (o : Objs) | cnt (en : Env) (o : Objs) | exc (c : Nat) (o : Objs) | bad
def Rs.out {α : Type} : Rs α → (α → Objs → Out) → Out
  | .ok a o, f => f a o
  | .exc c o, _ => .exc c o
  | .bad, _ => .bad
def Out.seq : Out → (Env → Objs → Out) → Out
  | .next en o, f => f en o
  | x, _ => x
def forGo (f : D → Env → Objs → Out) : List D → Env → Objs → Out
  | [], en, o => .next en o
  | d :: r, en, o => match f d en o with
    | .next en o => forGo f r en o
    | .cnt en o => forGo f r en o
    | .brk en o => .next en o
    | x => x
def whlGo (c : Env → Objs → Rs R) (f : Env → Objs → Out) : Nat → Env → Objs → Out
  | 0, _, _ => .bad
  | n + 1, en, o => (c en o).out fun x o => match x.d with
    | .bl false => .next en o
    | .bl true => match f en o with
      | .next en o => whlGo c f n en o
      | .cnt en o => whlGo c f n en o
      | .brk en o => .next en o
      | x => x
    | _ => .bad
def putAll (lk : List Nat) : List (Nat × Bool) → List R → Env → Option Env
  | [], [], en => some en
  | t :: ts, r :: rs, en => (put1 lk t.1 t.2 r en).bind (putAll lk ts rs)
  | _, _, _ => none
def outO (x : Option Env) (o : Objs) : Out := match x with
  | some en => .next en o
  | none => .bad
/-- the own list at i, changed -/
def onOwn (lk : List Nat) (i : Nat) (en : Env) (f : List D → Option (List D)) : Option Env :=
  if lk.contains i then none else match en[i]? with
    | some (.own xs) => (f xs).bind fun ys => if ys.length ≤ bigL then some (en.set i (.own ys)) else none
    | _ => none
def isOwn (i : Nat) (en : Env) : Bool := match en[i]? with
  | some (.own _) => true
  | _ => false
def isOwnD (i : Nat) (en : Env) : Bool := match en[i]? with
  | some (.ownd _) => true
  | _ => false
/-- the slots that peek at what is walked -/
def It.slots : It → List Nat
  | .lst e => e.slot
  | .enum e => e.slot
  | .zip a b => a.slot ++ b.slot
  | .zip3 a b c => a.slot ++ b.slot ++ c.slot
  | .any e => e.slot
  | .zipA a b => a.slot ++ b.slot
  | _ => []
section
variable (G : Sg)
mutual
def S.ev : S → List Nat → Env → Objs → Out
  | .set i e, lk, en, o => (e.ev G en o).out fun r o => outO (put1 lk i false r en) o
  | .own i e, lk, en, o => (e.ev G en o).out fun r o => outO (put1 lk i true r en) o
  | .par ts es, lk, en, o => (es.ev G en o).out fun rs o => outO (if ts.length ≤ 1000 then putAll lk ts rs en else none) o
  | .unp is e, lk, en, o => (e.ev G en o).out fun r o => match r.d with
    | .tup xs => outO (putVals lk is xs en) o
    | _ => .bad
  | .app i e, lk, en, o => if isOwn i en then (e.ev G en o).out fun r o => if r.k ≠ Kd.al then outO (onOwn lk i en fun xs => some (xs ++ [r.d])) o else .bad else .bad
  | .ext i e, lk, en, o => if isOwn i en then (e.ev G en o).out fun r o => match r.d with
    | .lst ys => outO (onOwn lk i en fun xs => some (xs ++ ys)) o
    | _ => .bad else .bad
  | .pop i, lk, en, o => outO (onOwn lk i en fun xs => if xs.isEmpty then none else some xs.dropLast) o
  | .popTo j i k, lk, en, o => if isOwn i en then (k.ev G en o).out fun r o => match r.d, en[i]? with
    | .int z, some (.own xs) => match ixN xs.length z with
      | some m => match xs[m]? with
        | some d => outO ((onOwn lk i en fun xs => some (xs.eraseIdx m)).bind (put1 lk j false ⟨d, .fz⟩)) o
        | none => .bad
      | none => .bad
    | _, _ => .bad else .bad
  | .insert i k e, lk, en, o => if isOwn i en then (k.ev G en o).out fun z o => (e.ev G en o).out fun r o => match z.d with
    | .int z => if (0 ≤ z ∧ z ≤ 1000000) ∧ r.k ≠ Kd.al then outO (onOwn lk i en fun xs => some (xs.take z.toNat ++ r.d :: xs.drop z.toNat)) o else .bad
    | _ => .bad else .bad
  | .clear i, lk, en, o => outO (onOwn lk i en fun _ => some []) o
  | .seti i k e, lk, en, o => if isOwn i en then (e.ev G en o).out fun r o => (k.ev G en o).out fun z o => match z.d with
    | .int z => if r.k ≠ Kd.al then outO (onOwn lk i en fun xs => (ixN xs.length z).map fun m => xs.set m r.d) o else .bad
    | _ => .bad else .bad
  | .dset i k e, lk, en, o => if isOwnD i en then (e.ev G en o).out fun r o => (k.ev G en o).out fun z o => match z.d.key, r.d.sc, en[i]? with
    | some k, some v, some (.ownd kvs) => if lk.contains i || decide (1000 < kvs.length) then .bad else .next (en.set i (.ownd (dput kvs k v))) o
    | _, _, _ => .bad else .bad
  | .aug i e, lk, en, o => match en[i]? with
    | some (.val x) => (e.ev G en o).out fun r o => match x.d, r.d with
      | .int u, .int w => outO (put1 lk i false ⟨.int (u + w), .fz⟩ en) o
      | _, _ => .bad
    | _ => .bad
  | .ife c a b, lk, en, o => (c.ev G en o).out fun x o => match x.d with
    | .bl true => a.ev lk en o
    | .bl false => b.ev lk en o
    | _ => .bad
  | .for tg it body, lk, en, o => (it.ev G en o).out fun x o =>
      forGo (fun d en o => match putTg (it.slots ++ lk) tg d en with
        | some en => body.ev (it.slots ++ lk) en o
        | none => .bad) x.1 en o
  | .whl n c body, lk, en, o => whlGo (c.ev G) (body.ev lk) n en o
  | .ret e, _, en, o => (e.ev G en o).out fun r o => if r.k ≠ Kd.al then .ret r o else .bad
  | .retOwn i, _, en, o => match en[i]? with
    | some (.own xs) => .ret ⟨.lst xs, .ex⟩ o
    | _ => .bad
  | .retN, _, _, o => .ret ⟨.non, .fz⟩ o
  | .rse c, _, _, o => .exc c o
  | .brk, _, en, o => .brk en o
  | .cnt, _, en, o => .cnt en o
  | .pass, _, en, o => .next en o
  | .drop e, _, en, o => (e.ev G en o).out fun _ o => .next en o
  | .nev, _, _, _ => .bad
def Ss.ev : Ss → List Nat → Env → Objs → Out
  | .nil, _, en, o => .next en o
  | .cons s r, lk, en, o => (s.ev lk en o).seq fun en o => r.ev lk en o
  | .frz i r, lk, en, o => match en[i]? with
    | some (.own xs) => if lk.contains i then .bad else r.ev lk (en.set i (.val ⟨.lst xs, .fz⟩)) o
    | _ => .bad
end
/-- a def run: its parameters' data, n slots in all -/
def runDef (body : Ss) (n : Nat) (ds : List R) (o : Objs) : Rs R :=
  if ds.length ≤ n then
    match body.ev G [] (ds.map Slot.val ++ List.replicate (n - ds.length) .none) o with
    | .next _ o => .ok ⟨.non, .fz⟩ o
    | .ret r o => .ok r o
    | .exc c o => .exc c o
    | _ => .bad
  else .bad
end
section
example (G : Sg) (en : Env) (o : Objs) (a b : E) : (E.op .addI a b).ev G en o = ((a.ev G en o).bind fun x o => (b.ev G en o).bind fun y o => ofO o ((Op.addI.ev x.d y.d).map fun d => ⟨d, .fz⟩)) := rfl
example (G : Sg) (en : Env) (o : Objs) : (Ss.cons (.set 0 (.op .addI (.var 0) (.int 3))) .nil).ev G [] [.val ⟨.int 4, .fz⟩] o = .next [.val ⟨.int 7, .fz⟩] o := rfl
end
end B
end

section
set_option Elab.async false
set_option linter.all false
set_option maxRecDepth 100000
set_option maxHeartbeats 1000000
/-! BB: what data a value stands for; the state. -/
namespace B
open PySem PySem.Spec PyProof.Rows L2
abbrev St := L2.St
def tS (t : Txt) : Str := ⟨t.toArray⟩
def okT (s : Txt) : Prop := ∀ c ∈ s, c < 1114112
theorem tS_len (t : Txt) : (tS t).length = t.length := by simp [tS, Str.length]
theorem tS_list (t : Txt) : (tS t).cps.toList = t := by simp [tS]
theorem tS_inj {s t : Txt} (h : tS s = tS t) : s = t := by
  have := congrArg (fun z : Str => z.cps.toList) h
  simpa [tS] using this
theorem tS_of (z : Str) : tS z.cps.toList = z := by cases z; simp [tS]
def cK : DKey → Key
  | .inl i => .inl i
  | .inr t => .inr (tS t)
def cS : Sc → V
  | .non => .non | .bl b => .bl b | .int i => .int i | .str s => .str (tS s)
def cKV (p : DKey × Sc) : Key × V := (cK p.1, cS p.2)
def okK : DKey → Prop
  | .inl _ => True
  | .inr t => okT t
def okS : Sc → Prop
  | .str t => okT t
  | _ => True
structure Stat where
  K : PySem.W.Frag
  cad : Nat → Addr
  fld : Nat → List Str
  dcl : Addr
  dfl : List Str
  ex : Nat → Value
def mutO : HO → Bool
  | .lst _ => true
  | .dK _ => true
  | .ins _ _ _ => true
  | _ => false
/-- the law's own list: it is never changed -/
def ScrAt (T : Stat) (H : Hp) (a : Addr) (xs : List Int) : Prop := (∃ u, H a = some (.frz u (.lst (xs.map V.int)))) ∨
  ∃ (o : Obj) (its : Array Value) (n : Nat), T.K.lookup a = some o ∧ o.cls = .type "list" ∧ o.dict = none ∧ o.data = .seq its n ∧ its.size ≤ sizeLine ∧ Vals (xs.map V.int) its.toList
mutual
inductive Rep (T : Stat) (H : Hp) (bk : Addr → Prop) (oa : List Addr) : V → D → Prop
  | non : Rep T H bk oa .non .non
  | bl (b : Bool) : Rep T H bk oa (.bl b) (.bl b)
  | int (i : Int) : Rep T H bk oa (.int i) (.int i)
  | str {s : Txt} : okT s → Rep T H bk oa (.str (tS s)) (.str s)
  | tup {a : Addr} {vs : List V} {xs : List D} : SqT T.K H a vs → Reps T H bk oa vs xs → Rep T H bk oa (.ref a) (.tup xs)
  | lst {a : Addr} {vs : List V} {xs : List D} : H a = some (.lst vs) → ¬ bk a → Reps T H bk oa vs xs → Rep T H bk oa (.ref a) (.lst xs)
  | dct {a : Addr} {kvs : List (DKey × Sc)} : H a = some (.dK (kvs.map cKV)) → ¬ bk a → (∀ p ∈ kvs, okK p.1 ∧ okS p.2) → Rep T H bk oa (.ref a) (.dct kvs)
  | ins {a dx : Addr} {c : Nat} {fs : List (Str × V)} {xs : List D} : H a = some (.ins (T.cad c) dx fs) → ¬ bk a → fs.map (·.1) = T.fld c → Reps T H bk oa (fs.map (·.2)) xs → Rep T H bk oa (.ref a) (.ins c xs)
  | obj {a : Addr} {n : Nat} : oa[n]? = some a → Rep T H bk oa (.ref a) (.obj n)
  | scr {a : Addr} {xs : List Int} : ScrAt T H a xs → Rep T H bk oa (.ref a) (.scr xs)
inductive Reps (T : Stat) (H : Hp) (bk : Addr → Prop) (oa : List Addr) : List V → List D → Prop
  | nil : Reps T H bk oa [] []
  | cons {v : V} {vs : List V} {d : D} {ds : List D} : Rep T H bk oa v d → Reps T H bk oa vs ds → Reps T H bk oa (v :: vs) (d :: ds)
end
section
variable {T : Stat} {H H' : Hp} {bk bk' : Addr → Prop} {oa oa' : List Addr}
theorem rd_tupK {a : Addr} {vs : List V} (h : SqT T.K H a vs) (k : ∀ b u, H b = some u → (bk b → mutO u = false) → H' b = some u) : SqT T.K H' a vs := by
  rcases h with (h | ⟨o, h⟩) | h
  · exact .inl (.inl (k _ _ h fun _ => rfl))
  · exact .inl (.inr ⟨o, k _ _ h fun _ => rfl⟩)
  · exact .inr h
theorem rd_keepK {a : Addr} {u : HO} (h : Rd H a u) (nb : ¬ bk a) (k : ∀ b u, H b = some u → (bk b → mutO u = false) → H' b = some u) : Rd H' a u := by
  rcases h with h | ⟨o, h⟩
  · exact .inl (k _ _ h fun z => absurd z nb)
  · exact .inr ⟨o, k _ _ h fun z => absurd z nb⟩
theorem rd_there {a : Addr} {u : HO} (h : Rd H a u) : H a ≠ none := by
  rcases h with h | ⟨o, h⟩ <;> rw [h] <;> simp
theorem ScrAt.sq {a : Addr} {xs : List Int} (h : ScrAt T H a xs) : SqL T.K H a (xs.map V.int) := by
  rcases h with ⟨u, h⟩ | h
  · exact .inl (.inr ⟨u, h⟩)
  · exact .inr h
theorem rd_inj {a : Addr} {u w : HO} (h : Rd H a u) (h' : H a = some w) : w = u ∨ ∃ o, w = .frz o u := by
  rcases h with h | ⟨o, h⟩
  · rw [h] at h'; exact .inl (Option.some.inj h').symm
  · rw [h] at h'; exact .inr ⟨o, (Option.some.inj h').symm⟩
mutual
theorem Rep.step (k : ∀ b u, H b = some u → (bk b → mutO u = false) → H' b = some u) (kb : ∀ b, bk' b → bk b ∨ H b = none) (po : ∀ (n : Nat) a, oa[n]? = some a → oa'[n]? = some a) :
    ∀ (d : D) (v : V), Rep T H bk oa v d → Rep T H' bk' oa' v d
  | .non, _, h => by cases h; exact .non
  | .bl _, _, h => by cases h; exact .bl _
  | .int _, _, h => by cases h; exact .int _
  | .str _, _, h => by
    cases h with
    | str q => exact .str q
  | .tup xs, _, h => by
    cases h with
    | tup h1 h2 => exact .tup (rd_tupK h1 k) (Reps.step k kb po xs _ h2)
  | .lst xs, _, h => by
    cases h with
    | lst h1 nb h2 => exact .lst (k _ _ h1 fun z => absurd z nb) (fun z => (kb _ z).elim nb (by rw [h1]; simp)) (Reps.step k kb po xs _ h2)
  | .dct kvs, _, h => by
    cases h with
    | dct h1 nb q => exact .dct (k _ _ h1 fun z => absurd z nb) (fun z => (kb _ z).elim nb (by rw [h1]; simp)) q
  | .ins c xs, _, h => by
    cases h with
    | ins h1 nb h2 h3 => exact .ins (k _ _ h1 fun z => absurd z nb) (fun z => (kb _ z).elim nb (by rw [h1]; simp)) h2 (Reps.step k kb po xs _ h3)
  | .obj n, _, h => by
    cases h with
    | obj h1 => exact .obj (po _ _ h1)
  | .fn _ _, _, h => by cases h
  | .scr xs, _, h => by
    cases h with
    | scr h1 =>
      rcases h1 with ⟨u, h1⟩ | h1
      · exact .scr (.inl ⟨u, k _ _ h1 fun _ => rfl⟩)
      · exact .scr (.inr h1)
theorem Reps.step (k : ∀ b u, H b = some u → (bk b → mutO u = false) → H' b = some u) (kb : ∀ b, bk' b → bk b ∨ H b = none) (po : ∀ (n : Nat) a, oa[n]? = some a → oa'[n]? = some a) :
    ∀ (ds : List D) (vs : List V), Reps T H bk oa vs ds → Reps T H' bk' oa' vs ds
  | [], _, h => by cases h; exact .nil
  | d :: ds, _, h => by
    cases h with
    | cons h1 h2 => exact .cons (Rep.step k kb po d _ h1) (Reps.step k kb po ds _ h2)
end
theorem Reps.len : ∀ {vs : List V} {ds : List D}, Reps T H bk oa vs ds → vs.length = ds.length
  | _, _, .nil => rfl
  | _, _, .cons _ r => by rw [List.length_cons, List.length_cons, Reps.len r]
theorem Reps.pairs : ∀ {vs : List V} {ds : List D}, Reps T H bk oa vs ds → ∃ ps : List (V × D), vs = ps.map (·.1) ∧ ds = ps.map (·.2) ∧ ∀ p ∈ ps, Rep T H bk oa p.1 p.2
  | _, _, .nil => ⟨[], rfl, rfl, fun _ z => absurd z List.not_mem_nil⟩
  | _, _, .cons (v := v) (d := d) h r => by
    obtain ⟨ps, rfl, rfl, q⟩ := Reps.pairs r
    refine ⟨(v, d) :: ps, rfl, rfl, fun p hp => ?_⟩
    rcases List.mem_cons.mp hp with rfl | hp
    · exact h
    · exact q p hp
theorem Reps.of : ∀ {ps : List (V × D)}, (∀ p ∈ ps, Rep T H bk oa p.1 p.2) → Reps T H bk oa (ps.map (·.1)) (ps.map (·.2))
  | [], _ => .nil
  | p :: r, h => .cons (h p List.mem_cons_self) (Reps.of fun q hq => h q (List.mem_cons_of_mem _ hq))
theorem Reps.get {vs : List V} {ds : List D} {i : Nat} {d : D} (r : Reps T H bk oa vs ds) (e : ds[i]? = some d) : ∃ v, vs[i]? = some v ∧ Rep T H bk oa v d := by
  obtain ⟨ps, rfl, rfl, q⟩ := r.pairs
  rw [List.getElem?_map] at e
  cases h : ps[i]? with
  | none => rw [h] at e; cases e
  | some p =>
    rw [h] at e
    cases e
    exact ⟨p.1, by rw [List.getElem?_map, h]; rfl, q p (List.mem_of_getElem? h)⟩
theorem Reps.getV {vs : List V} {ds : List D} {i : Nat} {v : V} (r : Reps T H bk oa vs ds) (e : vs[i]? = some v) : ∃ d, ds[i]? = some d ∧ Rep T H bk oa v d := by
  obtain ⟨ps, rfl, rfl, q⟩ := r.pairs
  rw [List.getElem?_map] at e
  cases h : ps[i]? with
  | none => rw [h] at e; cases e
  | some p =>
    rw [h] at e
    cases e
    exact ⟨p.2, by rw [List.getElem?_map, h]; rfl, q p (List.mem_of_getElem? h)⟩
theorem Reps.app {vs ws : List V} {ds es : List D} (r : Reps T H bk oa vs ds) (q : Reps T H bk oa ws es) : Reps T H bk oa (vs ++ ws) (ds ++ es) := by
  induction vs generalizing ds with
  | nil => cases r; exact q
  | cons v vs ih => cases r with | cons h r => exact .cons h (ih r)
theorem Reps.snoc {vs : List V} {ds : List D} {v : V} {d : D} (r : Reps T H bk oa vs ds) (q : Rep T H bk oa v d) : Reps T H bk oa (vs ++ [v]) (ds ++ [d]) := r.app (.cons q .nil)
/-- a function on lists that looks at no item -/
theorem Reps.nat {vs : List V} {ds : List D} (r : Reps T H bk oa vs ds) (f : {α : Type} → List α → List α) (hm : ∀ {α β : Type} (g : α → β) (l : List α), f (l.map g) = (f l).map g) (hs : ∀ {α : Type} (l : List α) (x : α), x ∈ f l → x ∈ l) : Reps T H bk oa (f vs) (f ds) := by
  obtain ⟨ps, rfl, rfl, q⟩ := r.pairs
  rw [hm, hm]
  exact Reps.of fun p hp => q p (hs _ _ hp)
theorem Reps.take {vs : List V} {ds : List D} (r : Reps T H bk oa vs ds) (n : Nat) : Reps T H bk oa (vs.take n) (ds.take n) :=
  r.nat (fun l => l.take n) (fun g l => by rw [List.map_take]) fun l x => List.mem_of_mem_take
theorem Reps.drop {vs : List V} {ds : List D} (r : Reps T H bk oa vs ds) (n : Nat) : Reps T H bk oa (vs.drop n) (ds.drop n) :=
  r.nat (fun l => l.drop n) (fun g l => by rw [List.map_drop]) fun l x => List.mem_of_mem_drop
theorem Reps.set {vs : List V} {ds : List D} {v : V} {d : D} (r : Reps T H bk oa vs ds) (q : Rep T H bk oa v d) (i : Nat) : Reps T H bk oa (vs.set i v) (ds.set i d) := by
  induction vs generalizing ds i with
  | nil => cases r; exact .nil
  | cons w vs ih =>
    cases r with
    | cons h r =>
      cases i with
      | zero => exact .cons q r
      | succ i => exact .cons h (ih r i)
theorem Reps.rep {vs : List V} {ds : List D} (r : Reps T H bk oa vs ds) (n : Nat) : Reps T H bk oa (List.replicate n vs).flatten (List.replicate n ds).flatten :=
  r.nat (fun l => (List.replicate n l).flatten) (fun g l => by rw [List.map_flatten, List.map_replicate]) fun l x hx => by
    obtain ⟨m, hm, hx⟩ := List.mem_flatten.mp hx
    rw [(List.mem_replicate.mp hm).2] at hx
    exact hx
theorem Reps.ofTxts {ts : List Txt} (h : ∀ t ∈ ts, okT t) : Reps T H bk oa ((ts.map tS).map V.str) (ts.map D.str) := by
  induction ts with
  | nil => exact .nil
  | cons t r ih => exact .cons (.str (h t List.mem_cons_self)) (ih fun u hu => h u (List.mem_cons_of_mem _ hu))
theorem Reps.of_txts : ∀ {ds : List D} {vs : List V} {ts : List Txt}, Reps T H bk oa vs ds → txts ds = some ts → vs = (ts.map tS).map V.str ∧ ∀ t ∈ ts, okT t
  | [], _, _, r, e => by cases r; cases e; exact ⟨rfl, fun _ z => absurd z List.not_mem_nil⟩
  | d :: ds, _, ts, r, e => by
    cases r with
    | cons h r =>
      cases h with
      | str q =>
        unfold B.txts at e
        cases h2 : B.txts ds with
        | none => rw [h2] at e; cases e
        | some us =>
          rw [h2] at e
          cases e
          obtain ⟨e1, q1⟩ := Reps.of_txts r h2
          refine ⟨by rw [e1]; rfl, fun t ht => ?_⟩
          rcases List.mem_cons.mp ht with rfl | ht
          · exact q
          · exact q1 t ht
      | _ => cases e
theorem Reps.of_bls : ∀ {ds : List D} {vs : List V} {ts : List Bool}, Reps T H bk oa vs ds → bls ds = some ts → vs = ts.map V.bl
  | [], _, _, r, e => by cases r; cases e; rfl
  | d :: ds, _, ts, r, e => by
    cases r with
    | cons h r =>
      cases h with
      | bl s =>
        unfold B.bls at e
        cases h2 : B.bls ds with
        | none => rw [h2] at e; cases e
        | some us => rw [h2] at e; cases e; rw [Reps.of_bls r h2]; rfl
      | _ => cases e
theorem Rep.sc {v : V} {d : D} {s : Sc} (h : Rep T H bk oa v d) (e : d.sc = some s) : v = cS s ∧ okS s ∧ d = s.d := by
  cases h <;> cases e <;> first | exact ⟨rfl, trivial, rfl⟩ | exact ⟨rfl, by assumption, rfl⟩
theorem Rep.ofSc {s : Sc} (q : okS s) : Rep T H bk oa (cS s) s.d := by
  cases s
  · exact .non
  · exact .bl _
  · exact .int _
  · exact .str q
theorem Rep.key {v : V} {d : D} {k : DKey} (h : Rep T H bk oa v d) (e : d.key = some k) : v = kV (cK k) ∧ okK k ∧ d = k.d := by
  cases h <;> cases e <;> first | exact ⟨rfl, trivial, rfl⟩ | exact ⟨rfl, by assumption, rfl⟩
theorem Rep.ofKey {k : DKey} (q : okK k) : Rep T H bk oa (kV (cK k)) k.d := by
  cases k
  · exact .int _
  · exact .str q
theorem cK_inj {j k : DKey} (h : cK j = cK k) : j = k := by
  cases j <;> cases k
  · exact congrArg Sum.inl (Sum.inl.inj h)
  · cases h
  · cases h
  · exact congrArg Sum.inr (tS_inj (Sum.inr.inj h))
/-- the top may be blocked -/
def RepT (T : Stat) (H : Hp) (bk : Addr → Prop) (oa : List Addr) (v : V) (d : D) : Prop := match d with
  | .lst xs => ∃ a vs, v = .ref a ∧ H a = some (.lst vs) ∧ Reps T H bk oa vs xs
  | .dct kvs => ∃ a, v = .ref a ∧ H a = some (.dK (kvs.map cKV)) ∧ ∀ p ∈ kvs, okK p.1 ∧ okS p.2
  | _ => Rep T H bk oa v d
theorem Rep.top {v : V} {d : D} (h : Rep T H bk oa v d) : RepT T H bk oa v d := by
  cases h with
  | lst h1 nb h2 => exact ⟨_, _, rfl, h1, h2⟩
  | dct h1 nb q => exact ⟨_, rfl, h1, q⟩
  | non => exact .non
  | bl => exact .bl _
  | int => exact .int _
  | str q => exact .str q
  | tup h1 h2 => exact .tup h1 h2
  | ins h1 nb h2 h3 => exact .ins h1 nb h2 h3
  | obj h1 => exact .obj h1
  | scr h1 => exact .scr h1
end
end B
end

section
set_option Elab.async false
set_option linter.all false
set_option maxRecDepth 100000
set_option maxHeartbeats 1000000
/-! BC: the state related, what an expression's evaluation promises, the plumbing. -/
namespace B
open PySem PySem.Spec PyProof.Rows L2
def bkS (B : Addr → Prop) (ow : Nat → Option Addr) (oa : List Addr) : Addr → Prop := fun b => B b ∨ (∃ i, ow i = some b) ∨ b ∈ oa
/-- the objects (desks) -/
structure Obs (T : Stat) (H : Hp) (bk : Addr → Prop) (oa : List Addr) (o : Objs) : Prop where
  len : o.length = oa.length
  nod : oa.Nodup
  there : ∀ (n : Nat) fs, o[n]? = some fs → ∃ a dx vs, oa[n]? = some a ∧ H a = some (.ins T.dcl dx vs) ∧ vs.map (·.1) = T.dfl.take fs.length ∧ Reps T H bk oa (vs.map (·.2)) fs
structure SR (T : Stat) (B : Addr → Prop) (H0 : Hp) (en : Env) (o : Objs) (σ : St) (H : Hp) (ow : Nat → Option Addr) (oa : List Addr) : Prop where
  len : σ.length = en.length
  amb : ∀ b, B b → (∃ u, H b = some u ∧ mutO u = true) ∧ b ∉ oa
  kept : ∀ b u, H0 b = some u → b ∉ oa → H b = some u
  obs : Obs T H (bkS B ow oa) oa o
  val : ∀ (i : Nat) r, en[i]? = some (.val r) → ∃ v, σ[i]? = some (some v) ∧ RepT T H (bkS B ow oa) oa v r.d ∧ (r.k ≠ .al → Rep T H (bkS B ow oa) oa v r.d)
  own : ∀ (i : Nat) xs, en[i]? = some (.own xs) → ∃ p vs, ow i = some p ∧ σ[i]? = some (some (.ref p)) ∧ H p = some (.lst vs) ∧ Reps T H (bkS B ow oa) oa vs xs
  ownd : ∀ (i : Nat) kvs, en[i]? = some (.ownd kvs) → ∃ p, ow i = some p ∧ σ[i]? = some (some (.ref p)) ∧ H p = some (.dK (kvs.map cKV)) ∧ ∀ q ∈ kvs, okK q.1 ∧ okS q.2
  ows : ∀ i p, ow i = some p → H0 p = none ∧ ¬ B p ∧ p ∉ oa ∧ (∃ u, H p = some u ∧ mutO u = true) ∧ ∃ s, en[i]? = some s ∧ (∀ r, s ≠ .val r) ∧ s ≠ .none
  inj : ∀ i j p, ow i = some p → ow j = some p → i = j
  alt : ∀ (i : Nat) r a, en[i]? = some (.val r) → r.k = .al → r.d.mt = true → σ[i]? = some (some (.ref a)) → H0 a ≠ none
/-- behind an expression: what stood stands, but the objects -/
structure Ext (T : Stat) (B : Addr → Prop) (ow : Nat → Option Addr) (oa : List Addr) (o' : Objs) (H H' : Hp) (oa' : List Addr) : Prop where
  keep : ∀ b u, H b = some u → b ∉ oa → H' b = some u
  pre : ∀ (n : Nat) a, oa[n]? = some a → oa'[n]? = some a
  new : ∀ b, b ∈ oa' → b ∈ oa ∨ H b = none
  obs : Obs T H' (bkS B ow oa') oa' o'
def Fresh (T : Stat) (H : Hp) (bk : Addr → Prop) (oa : List Addr) (p : Addr) (d : D) : Prop := match d with
  | .lst xs => ∃ vs, H p = some (.lst vs) ∧ Reps T H (fun b => bk b ∨ b = p) oa vs xs
  | .dct kvs => H p = some (.dK (kvs.map cKV)) ∧ ∀ q ∈ kvs, okK q.1 ∧ okS q.2
  | _ => False
def RepR (T : Stat) (B : Addr → Prop) (ow : Nat → Option Addr) (oa' : List Addr) (o' : Objs) (H H' : Hp) (r : R) (v : V) : Prop :=
  match r.k with
  | .al => RepT T H' (bkS B ow oa') oa' v r.d
  | .fz => Rep T H' (bkS B ow oa') oa' v r.d
  | .ex => ∃ p, v = .ref p ∧ H p = none ∧ p ∉ oa' ∧ Fresh T H' (bkS B ow oa') oa' p r.d ∧ Obs T H' (fun b => bkS B ow oa' b ∨ b = p) oa' o'
def Good (T : Stat) (B : Addr → Prop) (ow : Nat → Option Addr) (W : WX) (σ : St) (oa : List Addr) (H : Hp) (x : Rs R) (Q : VK) : Prop := match x with
  | .ok r o' => ∀ v H' oa', Ext T B ow oa o' H H' oa' → RepR T B ow oa' o' H H' r v → Q v H'
  | .exc c o' => ∀ H' oa', Ext T B ow oa o' H H' oa' → W (T.ex c) none σ H'
  | .bad => False
def tE (T : Stat) (G : Sg) (W : WX) (e : E) : TE := fun σ H Q => ∃ B H0 en o ow oa, SR T B H0 en o σ H ow oa ∧ Good T B ow W σ oa H (e.ev G en o) Q
section
variable {T : Stat} {G : Sg} {W : WX} {B : Addr → Prop} {H0 H H1 H2 H' : Hp} {en : Env} {o o1 o2 o' : Objs} {σ : St} {ow : Nat → Option Addr} {oa oa1 oa2 oa' : List Addr} {bk : Addr → Prop} {r : R} {v : V} {Q : VK}
theorem Obs.ins (h : Obs T H bk oa o) {b : Addr} (hb : b ∈ oa) : ∃ dx vs, H b = some (.ins T.dcl dx vs) := by
  obtain ⟨n, hn, e⟩ := List.mem_iff_getElem.mp hb
  have hn' : n < o.length := by rw [h.len]; exact hn
  obtain ⟨a, dx, vs, h1, h2, _⟩ := h.there n o[n] (List.getElem?_eq_getElem hn')
  rw [List.getElem?_eq_getElem hn] at h1
  cases h1
  rw [e] at h2
  exact ⟨dx, vs, h2⟩
theorem mem_pre (h : ∀ (n : Nat) a, oa[n]? = some a → oa'[n]? = some a) {b : Addr} (hb : b ∈ oa) : b ∈ oa' := by
  obtain ⟨n, hn, e⟩ := List.mem_iff_getElem.mp hb
  exact List.mem_of_getElem? (h n b (by rw [List.getElem?_eq_getElem hn, e]))
theorem Ext.non (E1 : Ext T B ow oa o1 H H1 oa1) (O : Obs T H bk oa o) {p : Addr} (h : H1 p = none) : H p = none := by
  cases e : H p with
  | none => rfl
  | some u =>
    by_cases hp : p ∈ oa
    · obtain ⟨dx, vs, q⟩ := E1.obs.ins (mem_pre E1.pre hp)
      rw [q] at h; cases h
    · rw [E1.keep p u e hp] at h; cases h
theorem bkS_sub {b : Addr} (h : b ∈ oa → b ∈ oa') (hb : bkS B ow oa b) : bkS B ow oa' b := by
  rcases hb with h1 | h1 | h1
  · exact .inl h1
  · exact .inr (.inl h1)
  · exact .inr (.inr (h h1))
theorem Ext.blk (E1 : Ext T B ow oa o1 H H1 oa1) (b : Addr) (hb : bkS B ow oa1 b) : bkS B ow oa b ∨ H b = none := by
  rcases hb with h1 | h1 | h1
  · exact .inl (.inl h1)
  · exact .inl (.inr (.inl h1))
  · rcases E1.new b h1 with h2 | h2
    · exact .inl (.inr (.inr h2))
    · exact .inr h2
theorem Ext.kp (E1 : Ext T B ow oa o1 H H1 oa1) (O : Obs T H bk oa o) (hs : ∀ b, b ∈ oa → bk b) : ∀ b u, H b = some u → (bk b → mutO u = false) → H1 b = some u := fun b u e h => by
  by_cases hb : b ∈ oa
  · obtain ⟨dx, vs, q⟩ := O.ins hb
    rw [q] at e
    cases e
    exact absurd (h (hs b hb)) (by simp [mutO])
  · exact E1.keep b u e hb
theorem Ext.rep (E1 : Ext T B ow oa o1 H H1 oa1) (O : Obs T H (bkS B ow oa) oa o) {d : D} (h : Rep T H (bkS B ow oa) oa v d) : Rep T H1 (bkS B ow oa1) oa1 v d :=
  Rep.step (E1.kp O fun b z => .inr (.inr z)) E1.blk E1.pre _ _ h
theorem Ext.reps (E1 : Ext T B ow oa o1 H H1 oa1) (O : Obs T H (bkS B ow oa) oa o) {vs : List V} {ds : List D} (h : Reps T H (bkS B ow oa) oa vs ds) : Reps T H1 (bkS B ow oa1) oa1 vs ds :=
  Reps.step (E1.kp O fun b z => .inr (.inr z)) E1.blk E1.pre _ _ h
theorem at_ext (E1 : Ext T B ow oa o1 H H1 oa1) (O : Obs T H bk oa o) {a : Addr} {u : HO} (h : H a = some u) (hu : ∀ C dx fs, u ≠ .ins C dx fs) : H1 a = some u :=
  E1.keep _ _ h fun z => by
    obtain ⟨dx, vs, q⟩ := O.ins z
    rw [q] at h
    cases h
    exact hu _ _ _ rfl
theorem Ext.repT (E1 : Ext T B ow oa o1 H H1 oa1) (O : Obs T H (bkS B ow oa) oa o) {d : D} (h : RepT T H (bkS B ow oa) oa v d) : RepT T H1 (bkS B ow oa1) oa1 v d := by
  cases d with
  | lst xs =>
    obtain ⟨a, vs, rfl, h1, h2⟩ := h
    exact ⟨a, vs, rfl, at_ext E1 O h1 (fun _ _ _ => by simp), E1.reps O h2⟩
  | dct kvs =>
    obtain ⟨a, rfl, h1, q⟩ := h
    exact ⟨a, rfl, at_ext E1 O h1 (fun _ _ _ => by simp), q⟩
  | _ => exact E1.rep O h
theorem Ext.trans (E1 : Ext T B ow oa o1 H H1 oa1) (O : Obs T H bk oa o) (E2 : Ext T B ow oa1 o2 H1 H2 oa2) : Ext T B ow oa o2 H H2 oa2 where
  keep := fun b u e hb => E2.keep b u (E1.keep b u e hb) fun z => (E1.new b z).elim hb (by rw [e]; simp)
  pre := fun n a e => E2.pre n a (E1.pre n a e)
  new := fun b hb => by
    rcases E2.new b hb with h | h
    · exact E1.new b h
    · exact .inr (E1.non O h)
  obs := E2.obs
theorem SR.ext (S : SR T B H0 en o σ H ow oa) (E1 : Ext T B ow oa o1 H H1 oa1) : SR T B H0 en o1 σ H1 ow oa1 where
  len := S.len
  amb := fun b hb => by
    obtain ⟨⟨u, e, m⟩, nb⟩ := S.amb b hb
    exact ⟨⟨u, E1.keep b u e nb, m⟩, fun z => (E1.new b z).elim nb (by rw [e]; simp)⟩
  kept := fun b u e hb => by
    have nb : b ∉ oa := fun z => hb (mem_pre E1.pre z)
    exact E1.keep b u (S.kept b u e nb) nb
  obs := E1.obs
  val := fun i r e => by
    obtain ⟨v, h1, h2, h3⟩ := S.val i r e
    exact ⟨v, h1, E1.repT S.obs h2, fun z => E1.rep S.obs (h3 z)⟩
  own := fun i xs e => by
    obtain ⟨p, vs, h1, h2, h3, h4⟩ := S.own i xs e
    exact ⟨p, vs, h1, h2, E1.keep _ _ h3 (S.ows i p h1).2.2.1, E1.reps S.obs h4⟩
  ownd := fun i xs e => by
    obtain ⟨p, h1, h2, h3, h4⟩ := S.ownd i xs e
    exact ⟨p, h1, h2, E1.keep _ _ h3 (S.ows i p h1).2.2.1, h4⟩
  ows := fun i p e => by
    obtain ⟨h1, h2, h3, ⟨u, h4, h5⟩, h6⟩ := S.ows i p e
    exact ⟨h1, h2, fun z => (E1.new p z).elim h3 (by rw [h4]; simp), ⟨u, E1.keep p u h4 h3, h5⟩, h6⟩
  inj := S.inj
  alt := S.alt
theorem Ext.refl (O : Obs T H (bkS B ow oa) oa o) : Ext T B ow oa o H H oa := ⟨fun _ _ e _ => e, fun _ _ e => e, fun _ h => .inl h, O⟩
theorem RepR.top (S : SR T B H0 en o' σ H' ow oa') (h : RepR T B ow oa' o' H H' r v) : RepT T H' (bkS B ow oa') oa' v r.d := by
  unfold RepR at h
  cases hk : r.k <;> rw [hk] at h
  · exact h
  · exact Rep.top h
  · obtain ⟨p, rfl, h1, h2, h3, _⟩ := h
    cases hd : r.d <;> rw [hd] at h3
    case lst xs =>
      obtain ⟨vs, h4, h5⟩ := h3
      exact ⟨p, vs, rfl, h4, Reps.step (fun _ _ e _ => e) (fun b z => .inl (.inl z)) (fun _ _ e => e) _ _ h5⟩
    case dct kvs => exact ⟨p, rfl, h3.1, h3.2⟩
    all_goals exact h3.elim
/-- what is not a peek may be stored -/
theorem RepR.fz (S : SR T B H0 en o' σ H' ow oa') (O : ∀ i p, ow i = some p → H p ≠ none) (Bt : ∀ b, B b → H b ≠ none) (h : RepR T B ow oa' o' H H' r v) (hk : r.k ≠ .al) : Rep T H' (bkS B ow oa') oa' v r.d := by
  unfold RepR at h
  cases hk' : r.k <;> rw [hk'] at h
  · exact absurd hk' hk
  · exact h
  · obtain ⟨p, rfl, h1, h2, h3, _⟩ := h
    have nb : ¬ bkS B ow oa' p := by
      rintro (z | ⟨i, z⟩ | z)
      · exact Bt _ z h1
      · exact O i p z h1
      · exact h2 z
    cases hd : r.d <;> rw [hd] at h3
    case lst xs =>
      obtain ⟨vs, h4, h5⟩ := h3
      exact .lst h4 nb (Reps.step (fun _ _ e _ => e) (fun b z => .inl (.inl z)) (fun _ _ e => e) _ _ h5)
    case dct kvs => exact .dct h3.1 nb h3.2
    all_goals exact h3.elim
theorem SR.owt (S : SR T B H0 en o σ H ow oa) : ∀ i p, ow i = some p → H p ≠ none := fun i p e => by
  obtain ⟨_, _, _, ⟨u, h, _⟩, _⟩ := S.ows i p e
  rw [h]; simp
theorem SR.Bt (S : SR T B H0 en o σ H ow oa) : ∀ b, B b → H b ≠ none := fun b h => by
  obtain ⟨⟨u, h, _⟩, _⟩ := S.amb b h
  rw [h]; simp
theorem RepR.mono (E1 : Ext T B ow oa o1 H H1 oa1) (O : Obs T H bk oa o) (h : RepR T B ow oa' o' H1 H' r v) : RepR T B ow oa' o' H H' r v := by
  unfold RepR at h ⊢
  cases hk : r.k <;> rw [hk] at h
  · exact h
  · exact h
  · obtain ⟨p, e, h1, h2⟩ := h
    exact ⟨p, e, E1.non O h1, h2⟩
theorem Good.mono {x : Rs R} (h : Good T B ow W σ oa H x Q) (O : Obs T H bk oa o) (E1 : Ext T B ow oa o1 H H1 oa1) : Good T B ow W σ oa1 H1 x Q := by
  cases x with
  | ok r o' => exact fun v H' oa' E2 R2 => h v H' oa' (E1.trans O E2) (R2.mono E1 O)
  | exc c o' => exact fun H' oa' E2 => h H' oa' (E1.trans O E2)
  | bad => exact h
/-- a part of an expression, then the rest -/
theorem good_a {e : E} {f : R → Objs → Rs R} {Rk : VK} (S : SR T B H0 en o σ H ow oa) (h : Good T B ow W σ oa H ((e.ev G en o).bind f) Q)
    (k : ∀ r o1 v H1 oa1, Ext T B ow oa o1 H H1 oa1 → RepR T B ow oa1 o1 H H1 r v → SR T B H0 en o1 σ H1 ow oa1 → Good T B ow W σ oa1 H1 (f r o1) Q → Rk v H1) : tE T G W e σ H Rk := by
  refine ⟨B, H0, en, o, ow, oa, S, ?_⟩
  cases he : e.ev G en o with
  | ok r o1 =>
    rw [he] at h
    exact fun v H1 oa1 E1 R1 => k r o1 v H1 oa1 E1 R1 (S.ext E1) (Good.mono h S.obs E1)
  | exc c o1 =>
    rw [he] at h
    exact h
  | bad =>
    rw [he] at h
    exact h
/-- a built-in's result: the heap as it was, or with one new object -/
def Prim (T : Stat) (bk : Addr → Prop) (oa : List Addr) (H : Hp) (r : R) (v : V) (H' : Hp) : Prop := match r.k with
  | .ex => ∃ p u, v = .ref p ∧ H p = none ∧ H' = upd H p u ∧ match r.d with
    | .lst xs => ∃ vs, u = .lst vs ∧ Reps T H bk oa vs xs
    | .dct kvs => u = .dK (kvs.map cKV) ∧ ∀ q ∈ kvs, okK q.1 ∧ okS q.2
    | _ => False
  | .fz => (H' = H ∧ Rep T H bk oa v r.d) ∨ ∃ p xs vs, r.d = .tup xs ∧ v = .ref p ∧ H p = none ∧ H' = upd H p (.tup vs) ∧ Reps T H bk oa vs xs
  | .al => False
theorem upd_keep {p : Addr} {u : HO} (hp : H p = none) : ∀ b w, H b = some w → upd H p u b = some w := fun b w e => by
  rw [upd_ne (ne_of_none e hp)]; exact e
theorem Obs.upd {p : Addr} {u : HO} (O : Obs T H bk oa o) (hp : H p = none) : Obs T (L2.upd H p u) (fun b => bk b ∨ b = p) oa o where
  len := O.len
  nod := O.nod
  there := fun n fs e => by
    obtain ⟨a, dx, vs, h1, h2, h3, h4⟩ := O.there n fs e
    exact ⟨a, dx, vs, h1, upd_keep hp _ _ h2, h3, Reps.step (fun b w e _ => upd_keep hp b w e) (fun b z => z.elim .inl fun z => .inr (by rw [z]; exact hp)) (fun _ _ e => e) _ _ h4⟩
theorem Obs.weak {bk' : Addr → Prop} (O : Obs T H bk oa o) (h : ∀ b, bk' b → bk b) : Obs T H bk' oa o where
  len := O.len
  nod := O.nod
  there := fun n fs e => by
    obtain ⟨a, dx, vs, h1, h2, h3, h4⟩ := O.there n fs e
    exact ⟨a, dx, vs, h1, h2, h3, Reps.step (fun b w e _ => e) (fun b z => .inl (h b z)) (fun _ _ e => e) _ _ h4⟩
theorem Ext.upd {p : Addr} {u : HO} (O : Obs T H (bkS B ow oa) oa o) (hp : H p = none) : Ext T B ow oa o H (L2.upd H p u) oa :=
  ⟨fun b w e _ => upd_keep hp b w e, fun _ _ e => e, fun _ h => .inl h, (O.upd hp).weak fun b z => .inl z⟩
theorem Prim.good (S : SR T B H0 en o σ H ow oa) (P : Prim T (bkS B ow oa) oa H r v H') (h : Good T B ow W σ oa H (.ok r o) Q) : Q v H' := by
  unfold Prim at P
  cases hk : r.k <;> rw [hk] at P
  · exact P.elim
  · rcases P with ⟨rfl, P⟩ | ⟨p, xs, vs, hd, rfl, hp, rfl, P⟩
    · exact h v _ oa (.refl S.obs) (by unfold RepR; rw [hk]; exact P)
    · refine h _ _ oa (.upd S.obs hp) ?_
      unfold RepR
      rw [hk]
      show Rep T _ _ _ _ r.d
      rw [hd]
      refine .tup (.inl (.inl upd_same)) (Reps.step (fun b w e _ => upd_keep hp b w e) (fun b z => .inl z) (fun _ _ e => e) _ _ P)
  · obtain ⟨p, u, rfl, hp, rfl, P⟩ := P
    have np : p ∉ oa := fun z => by
      obtain ⟨dx, vs, q⟩ := S.obs.ins z
      rw [q] at hp; cases hp
    refine h _ _ oa (.upd S.obs hp) ?_
    unfold RepR
    rw [hk]
    refine ⟨p, rfl, hp, np, ?_, S.obs.upd hp⟩
    unfold Fresh
    cases hd : r.d <;> rw [hd] at P
    case lst xs =>
      obtain ⟨vs, rfl, P⟩ := P
      exact ⟨vs, upd_same, Reps.step (fun b w e _ => upd_keep hp b w e) (fun b z => z.elim .inl fun z => .inr (by rw [z]; exact hp)) (fun _ _ e => e) _ _ P⟩
    case dct kvs =>
      rw [P.1]
      exact ⟨upd_same, P.2⟩
    all_goals exact P.elim
theorem Good.ofO {x : Option R} (h : Good T B ow W σ oa H (_root_.B.ofO o x) Q) : ∃ r, x = some r ∧ Good T B ow W σ oa H (.ok r o) Q := by
  cases x with
  | none => exact h.elim
  | some r => exact ⟨r, rfl, h⟩
end
theorem pe_weak {X : Cx} {a : Expr} {t t' : TE} (h : PE X a t) (w : ∀ σ H Q, t' σ H Q → t σ H Q) : PE X a t' := ⟨fun pins s σ H Q I q => h.run pins s σ H Q I (w σ H Q q)⟩
theorem pt_weak {X : Cx} {a : Expr} {t t' : TT} (h : PT X a t) (w : ∀ σ H Q, t' σ H Q → t σ H Q) : PT X a t' := ⟨fun pins s σ H Q I q => h.run pins s σ H Q I (w σ H Q q)⟩
theorem ps_weak {X : Cx} {a : Stmt} {t t' : TS} (h : PS X a t) (w : ∀ D σ H, t' D σ H → t D σ H) : PS X a t' := ⟨fun pins s σ H D I q => h.run pins s σ H D I (w D σ H q)⟩
end B
end

section
set_option Elab.async false
set_option linter.all false
set_option maxRecDepth 100000
set_option maxHeartbeats 1000000
/-! BD: operators by values. -/
namespace B
open PySem PySem.Spec PyProof.Rows L2
theorem nofun_ {α : Type} {d : α} {P : Prop} (e : (none : Option α) = some d) : P := by cases e
def rV (T : Stat) (ev : D → D → Option R) : R2 := fun x y H Q => ∃ bk oa dx dy r, RepT T H bk oa x dx ∧ RepT T H bk oa y dy ∧ ev dx dy = some r ∧ ∀ v H', Prim T bk oa H r v H' → Q v H'
def Op.evR (p : Op) (x y : D) : Option R := (p.ev x y).map fun d => ⟨d, p.kd d⟩
theorem Op.evR_some {p : Op} {x y : D} {r : R} (e : p.evR x y = some r) : ∃ d, p.ev x y = some d ∧ r = ⟨d, p.kd d⟩ := by
  unfold Op.evR at e
  cases h : p.ev x y with
  | none => rw [h] at e; cases e
  | some d => rw [h] at e; cases e; exact ⟨d, rfl, rfl⟩
theorem opr_weak {X : Cx} {f : Value → Value → Sem Value} {r r' : R2} (h : OpR X f r) (w : ∀ x y H Q, r' x y H Q → r x y H Q) : OpR X f r' :=
  fun pins s σ H x y v u Q I rx ry q => h pins s σ H x y v u Q I rx ry (w x y H Q q)
section
variable {T : Stat} {H H' : Hp} {bk : Addr → Prop} {oa : List Addr} {x y v : V}
theorem RepT.int_ {i : Int} (h : RepT T H bk oa x (.int i)) : x = .int i := by cases h; rfl
theorem RepT.bl_ {i : Bool} (h : RepT T H bk oa x (.bl i)) : x = .bl i := by cases h; rfl
theorem RepT.non_ (h : RepT T H bk oa x .non) : x = .non := by cases h; rfl
theorem RepT.str_ {i : Txt} (h : RepT T H bk oa x (.str i)) : x = .str (tS i) ∧ okT i := by cases h; exact ⟨rfl, by assumption⟩
theorem prim_sc {d : D} (h : Rep T H bk oa v d) : Prim T bk oa H ⟨d, .fz⟩ v H := .inl ⟨rfl, h⟩
theorem tS_app (s t : Txt) : tS s ++ tS t = tS (s ++ t) := by
  show (⟨(s.toArray) ++ t.toArray⟩ : Str) = ⟨(s ++ t).toArray⟩
  simp
theorem okT_app {s t : Txt} (a : okT s) (b : okT t) : okT (s ++ t) := fun c hc => (List.mem_append.mp hc).elim (a c) (b c)

/-! ### arithmetic -/
variable {X : Cx}
theorem ok_addI : OpR X (binaryOp .Add) (rV T Op.addI.evR) := opr_weak op_add fun x y H Q ⟨bk, oa, dx, dy, r, hx, hy, e, q⟩ => by
  obtain ⟨d, e2, rfl⟩ := Op.evR_some e
  clear e
  cases dx <;> first | exact nofun_ e2 | skip
  cases dy <;> first | exact nofun_ e2 | skip
  cases e2
  exact ⟨_, _, hx.int_, hy.int_, q _ _ (prim_sc (.int _))⟩
theorem ok_subI : OpR X (binaryOp .Sub) (rV T Op.subI.evR) := opr_weak op_sub fun x y H Q ⟨bk, oa, dx, dy, r, hx, hy, e, q⟩ => by
  obtain ⟨d, e2, rfl⟩ := Op.evR_some e
  clear e
  cases dx <;> first | exact nofun_ e2 | skip
  cases dy <;> first | exact nofun_ e2 | skip
  cases e2
  exact ⟨_, _, hx.int_, hy.int_, q _ _ (prim_sc (.int _))⟩
theorem if_some {α : Type} {c : Bool} {a b : α} (e : (if c = true then some a else none) = some b) : c = true ∧ a = b := by
  cases c with
  | true => exact ⟨rfl, by simpa using e⟩
  | false => cases e
theorem ok_mulI : OpR X (binaryOp .Mult) (rV T Op.mulI.evR) := opr_weak op_mulW fun x y H Q ⟨bk, oa, dx, dy, r, hx, hy, e, q⟩ => by
  obtain ⟨d, e2, rfl⟩ := Op.evR_some e
  clear e
  cases dx <;> first | exact nofun_ e2 | skip
  cases dy <;> first | exact nofun_ e2 | skip
  obtain ⟨c, rfl⟩ := if_some e2
  simp only [Bool.and_eq_true, decide_eq_true_eq] at c
  exact ⟨_, _, hx.int_, hy.int_, wide_mul c.1 c.2 (by decide) (by decide) (by decide), q _ _ (prim_sc (.int _))⟩
theorem ok_fdivI : OpR X (binaryOp .FloorDiv) (rV T Op.fdivI.evR) := opr_weak op_fdivW fun x y H Q ⟨bk, oa, dx, dy, r, hx, hy, e, q⟩ => by
  obtain ⟨d, e2, rfl⟩ := Op.evR_some e
  clear e
  cases dx <;> first | exact nofun_ e2 | skip
  cases dy <;> first | exact nofun_ e2 | skip
  obtain ⟨c, rfl⟩ := if_some e2
  simp only [Bool.and_eq_true, decide_eq_true_eq] at c
  exact ⟨_, _, hx.int_, hy.int_, wide_div c.1 c.2 (by decide) (by decide), q _ _ (prim_sc (.int _))⟩
theorem ok_modI : OpR X (binaryOp .Mod) (rV T Op.modI.evR) := opr_weak op_mod fun x y H Q ⟨bk, oa, dx, dy, r, hx, hy, e, q⟩ => by
  obtain ⟨d, e2, rfl⟩ := Op.evR_some e
  clear e
  cases dx <;> first | exact nofun_ e2 | skip
  cases dy <;> first | exact nofun_ e2 | skip
  have e' := e2
  simp only [Op.ev, Option.ite_none_right_eq_some, Option.some.injEq] at e'
  obtain ⟨c, rfl⟩ := e'
  exact ⟨_, _, hx.int_, hy.int_, c, q _ _ (prim_sc (.int _))⟩
theorem ok_powI : OpR X (binaryOp .Pow) (rV T Op.powI.evR) := opr_weak op_pow fun x y H Q ⟨bk, oa, dx, dy, r, hx, hy, e, q⟩ => by
  obtain ⟨d, e2, rfl⟩ := Op.evR_some e
  clear e
  cases dx <;> first | exact nofun_ e2 | skip
  cases dy <;> first | exact nofun_ e2 | skip
  obtain ⟨c, rfl⟩ := if_some e2
  simp only [Bool.and_eq_true, decide_eq_true_eq] at c
  exact ⟨_, _, hx.int_, hy.int_, ⟨c.1.1, by omega, Nat.lt_of_lt_of_le c.2 (by decide)⟩, q _ _ (prim_sc (.int _))⟩
/-! ### texts -/
theorem ok_addS : OpR X (binaryOp .Add) (rV T Op.addS.evR) := opr_weak op_add_str fun x y H Q ⟨bk, oa, dx, dy, r, hx, hy, e, q⟩ => by
  obtain ⟨d, e2, rfl⟩ := Op.evR_some e
  clear e
  cases dx <;> first | exact nofun_ e2 | skip
  cases dy <;> first | exact nofun_ e2 | skip
  have e' := e2
  simp only [Op.ev, Option.ite_none_right_eq_some, Option.some.injEq] at e'
  obtain ⟨c, rfl⟩ := e'
  obtain ⟨rfl, ox⟩ := hx.str_
  obtain ⟨rfl, oy⟩ := hy.str_
  refine ⟨_, _, rfl, rfl, ?_, ?_⟩
  · rw [tS_len, tS_len]
    exact Nat.le_trans c (by decide)
  · rw [tS_app]
    exact q _ _ (prim_sc (.str (okT_app ox oy)))
theorem mulS_eq (t : Txt) (n : Nat) : (List.replicate n (tS t).cps).foldl (· ++ ·) #[] = ((List.replicate n t).flatten).toArray := by
  have : ∀ (n : Nat) (a : Array Nat), (List.replicate n (tS t).cps).foldl (· ++ ·) a = a ++ ((List.replicate n t).flatten).toArray := by
    intro n
    induction n with
    | zero => intro a; simp
    | succ n ih =>
      intro a
      rw [List.replicate_succ, List.foldl_cons, ih, List.replicate_succ, List.flatten_cons]
      simp [tS]
  rw [this]
  simp
theorem okT_rep {t : Txt} (h : okT t) (n : Nat) : okT (List.replicate n t).flatten := fun c hc => by
  obtain ⟨m, hm, hc⟩ := List.mem_flatten.mp hc
  rw [(List.mem_replicate.mp hm).2] at hc
  exact h c hc
theorem ok_mulS : OpR X (binaryOp .Mult) (rV T Op.mulS.evR) := by
  intro pins s σ H x y v u Q I rx ry h
  obtain ⟨bk, oa, dx, dy, r, hx, hy, e, q⟩ := h
  obtain ⟨d, e2, rfl⟩ := Op.evR_some e
  clear e
  cases dx <;> first | exact nofun_ e2 | skip
  cases dy <;> first | exact nofun_ e2 | skip
  rename_i t n
  have e' := e2
  simp only [Op.ev, Bool.and_eq_true, decide_eq_true_eq, Option.ite_none_right_eq_some, Option.some.injEq] at e'
  obtain ⟨⟨⟨c1, c0⟩, c2⟩, rfl⟩ := e'
  obtain ⟨rfl, ox⟩ := hx.str_
  have := hy.int_
  subst this
  obtain ⟨t1, rfl⟩ := rx
  obtain ⟨t2, rfl⟩ := ry
  have hlen : (tS t).length = t.length := tS_len t
  have fin : ∀ {u : Str} {k : Nat}, u = tS (List.replicate n.toNat t).flatten → EP X pins σ Q (.str u k) { s with toks := s.toks + 1 } := fun {u k} e => by
    subst e
    exact ⟨.str (tS (List.replicate n.toNat t).flatten), H, I.tok _, ⟨_, rfl⟩, q _ _ (prim_sc (.str (okT_rep ox _)))⟩
  have M : MulOk (tS t) n := by
    by_cases h0 : n < 1
    · exact mulOk_of (tS t).length 0 (Nat.le_refl _) (by omega) (by omega) (by decide) (by omega)
    · have hp : (1 : Nat) ≤ n.toNat := by omega
      exact mulOk_of t.length n.toNat (by omega) (by omega) (by omega) (by omega) (Nat.le_trans c2 (by decide))
  refine PySem.P.mul_str M.1 M.2.1 M.2.2 ?_
  by_cases h1 : n < 1
  · rw [if_pos h1]
    refine ⟨by decide, fin ?_⟩
    have e0 : n.toNat = 0 := by omega
    rw [e0]
    rfl
  · rw [if_neg h1]
    split
    · rename_i hc
      rw [Bool.or_eq_true, beq_iff_eq, beq_iff_eq] at hc
      have e : t = (List.replicate n.toNat t).flatten := by
        rcases hc with h | h
        · rw [h]; simp
        · have h' : t = [] := List.eq_nil_of_length_eq_zero (by rw [← tS_len]; exact h)
          rw [h']
          simp
      refine ⟨.str (tS (List.replicate n.toNat t).flatten), H, I, ⟨t1, ?_⟩, q _ _ (prim_sc (.str (okT_rep ox _)))⟩
      rw [← e]
    · have e : (⟨(List.replicate n.toNat (tS t).cps).foldl (· ++ ·) #[]⟩ : Str) = tS (List.replicate n.toNat t).flatten := by rw [mulS_eq]; rfl
      refine ⟨?_, fin e⟩
      rw [e, tS_len, List.length_flatten, List.map_replicate, List.sum_replicate_nat, Nat.mul_comm]
      exact Nat.le_trans c2 (by decide)
/-! ### lists -/
theorem RepT.lst_ {xs : List D} (h : RepT T H bk oa x (.lst xs)) : ∃ a vs, x = .ref a ∧ H a = some (.lst vs) ∧ Reps T H bk oa vs xs := h
theorem RepT.tup_ {xs : List D} (h : RepT T H bk oa x (.tup xs)) : ∃ a vs, x = .ref a ∧ SqT T.K H a vs ∧ Reps T H bk oa vs xs := by
  cases h with
  | tup h1 h2 => exact ⟨_, _, rfl, h1, h2⟩
theorem prim_new {xs : List D} {vs : List V} {p : Addr} (h : Reps T H bk oa vs xs) (hp : H p = none) : Prim T bk oa H ⟨.lst xs, .ex⟩ (.ref p) (upd H p (.lst vs)) := ⟨p, _, rfl, hp, rfl, vs, rfl, h⟩
theorem ok_addL : OpR X (binaryOp .Add) (rV T Op.addL.evR) := opr_weak op_cat fun x y H Q ⟨bk, oa, dx, dy, r, hx, hy, e, q⟩ => by
  obtain ⟨d, e2, rfl⟩ := Op.evR_some e
  clear e
  cases dx <;> first | exact nofun_ e2 | skip
  cases dy <;> first | exact nofun_ e2 | skip
  have e' := e2
  simp only [Op.ev, Option.ite_none_right_eq_some, Option.some.injEq] at e'
  obtain ⟨c, rfl⟩ := e'
  obtain ⟨a, vs, rfl, h1, r1⟩ := hx.lst_
  obtain ⟨b, ws, rfl, h2, r2⟩ := hy.lst_
  refine ⟨a, b, vs, ws, rfl, rfl, h1, h2, ?_, fun p hp => q _ _ (prim_new (r1.app r2) hp)⟩
  rw [r1.len, r2.len]
  exact Nat.le_trans c (by decide)
theorem ok_repL : OpR X (binaryOp .Mult) (rV T Op.repL.evR) := opr_weak op_rep fun x y H Q ⟨bk, oa, dx, dy, r, hx, hy, e, q⟩ => by
  obtain ⟨d, e2, rfl⟩ := Op.evR_some e
  clear e
  cases dx <;> first | exact nofun_ e2 | skip
  cases dy <;> first | exact nofun_ e2 | skip
  have e' := e2
  simp only [Op.ev, Bool.and_eq_true, decide_eq_true_eq, Option.ite_none_right_eq_some, Option.some.injEq] at e'
  obtain ⟨⟨⟨c1, c2⟩, c3⟩, rfl⟩ := e'
  obtain ⟨a, vs, rfl, h1, r1⟩ := hx.lst_
  refine ⟨a, _, vs, rfl, hy.int_, h1, by omega, by omega, ?_, fun p hp => q _ _ (prim_new (r1.rep _) hp)⟩
  rw [r1.len]
  exact Nat.le_trans (Nat.mul_le_mul c3 (show _ ≤ 1000 by omega)) (by decide)
theorem ok_repT (hK : T.K = X.K) : OpR X (binaryOp .Mult) (rV T Op.repT.evR) := opr_weak op_repT fun x y H Q ⟨bk, oa, dx, dy, r, hx, hy, e, q⟩ => by
  obtain ⟨d, e2, rfl⟩ := Op.evR_some e
  clear e
  cases dx <;> first | exact nofun_ e2 | skip
  cases dy <;> first | exact nofun_ e2 | skip
  have e' := e2
  simp only [Op.ev, Bool.and_eq_true, decide_eq_true_eq, Option.ite_none_right_eq_some, Option.some.injEq] at e'
  obtain ⟨⟨⟨⟨c1, c2⟩, c3⟩, c4⟩, rfl⟩ := e'
  obtain ⟨a, vs, rfl, h1, r1⟩ := hx.tup_
  refine ⟨a, _, vs, rfl, hy.int_, hK ▸ h1, ?_, c1, c2, by rw [r1.len]; exact c3, fun p hp => q _ _ (.inr ⟨p, _, _, rfl, rfl, hp, rfl, r1.rep _⟩)⟩
  intro z
  rw [z] at r1
  cases r1
  cases c4
/-! ### == -/
mutual
def toPy : D → PyData
  | .non => .none
  | .bl b => .bool b
  | .int i => .int i
  | .str s => .str (tS s)
  | .tup xs => .tuple (toPys xs)
  | .lst xs => .list (toPys xs)
  | _ => .none
def toPys : List D → List PyData
  | [] => []
  | d :: ds => toPy d :: toPys ds
end
theorem str_beq (s t : Txt) : (tS s == tS t) = (s == t) := by
  rw [Bool.eq_iff_iff, beq_iff_eq, beq_iff_eq]
  exact ⟨tS_inj, fun h => by rw [h]⟩
theorem pl_all {n : Nat} {xs : List D} {d : D} {ds : List D} (h : (d :: ds).all (D.pl n) = true) : d.pl n = true ∧ ds.all (D.pl n) = true := by
  simpa using h
theorem eqv_py : ∀ (n : Nat) (a b : D), a.pl n = true → b.pl n = true → PyData.eqv (toPy a) (toPy b) = a.eqv b := by
  intro n
  induction n with
  | zero => intro a b h; cases a <;> cases h
  | succ n ih =>
    have ihs : ∀ xs ys : List D, xs.all (D.pl n) = true → ys.all (D.pl n) = true → PyData.eqvAll (toPys xs) (toPys ys) = D.eqv.go xs ys := by
      intro xs
      induction xs with
      | nil => intro ys _ _; cases ys <;> simp [toPys, PyData.eqvAll, D.eqv.go]
      | cons x xs ihx =>
        intro ys h1 h2
        cases ys with
        | nil => simp [toPys, PyData.eqvAll, D.eqv.go]
        | cons y ys =>
          simp only [List.all_cons, Bool.and_eq_true] at h1 h2
          simp only [toPys, PyData.eqvAll, D.eqv.go]
          rw [ih x y h1.1 h2.1, ihx ys h1.2 h2.2]
    intro a b ha hb
    cases a <;> cases b <;> first
      | (simp [toPy, PyData.eqv, D.eqv, str_beq]; done)
      | (simp only [toPy, PyData.eqv, D.eqv]; exact ihs _ _ ha hb)
      | exact Bool.noConfusion (show false = true from ha)
      | exact Bool.noConfusion (show false = true from hb)
theorem dp_of : ∀ (n : Nat) (d : D) (v : V), d.pl n = true → Rep T H bk oa v d → Dp T.K H v (toPy d) ∧ (toPy d).canLay0 = true ∧ (toPy d).depth ≤ n := by
  intro n
  induction n with
  | zero => intro a b h; cases a <;> cases h
  | succ n ih =>
    have ihs : ∀ (ds : List D) (vs : List V), ds.all (D.pl n) = true → Reps T H bk oa vs ds → DpAll T.K H vs (toPys ds) ∧ PyData.canLayAll0 (toPys ds) = true ∧ PyData.depthAll (toPys ds) ≤ n := by
      intro ds
      induction ds with
      | nil => intro vs _ r; cases r; exact ⟨.nil, by simp [toPys, PyData.canLayAll0], by simp [toPys, PyData.depthAll]⟩
      | cons d ds ihd =>
        intro vs h r
        simp only [List.all_cons, Bool.and_eq_true] at h
        cases r with
        | cons h1 r =>
          obtain ⟨a1, a2, a3⟩ := ih d _ h.1 h1
          obtain ⟨b1, b2, b3⟩ := ihd _ h.2 r
          refine ⟨.cons a1 b1, ?_, ?_⟩
          · simp only [toPys, PyData.canLayAll0, a2, b2, Bool.and_self]
          · simp only [toPys, PyData.depthAll]
            omega
    intro d v hd r
    cases r with
    | non => exact ⟨.non, by simp [toPy, PyData.canLay0], by simp [toPy, PyData.depth]⟩
    | bl b => exact ⟨.bl b, by simp [toPy, PyData.canLay0], by simp [toPy, PyData.depth]⟩
    | int i => exact ⟨.int i, by simp [toPy, PyData.canLay0], by simp [toPy, PyData.depth]⟩
    | str q =>
      refine ⟨.str _, ?_, by simp [toPy, PyData.depth]⟩
      simp only [toPy, PyData.canLay0, PyData.strOk, tS]
      rw [← Array.all_toList, List.all_eq_true]
      exact fun c hc => decide_eq_true (q c hc)
    | tup h1 h2 =>
      obtain ⟨a1, a2, a3⟩ := ihs _ _ hd h2
      refine ⟨.tup h1 a1, by simpa [toPy, PyData.canLay0] using a2, ?_⟩
      simp only [toPy, PyData.depth]
      omega
    | lst h1 nb h2 =>
      obtain ⟨a1, a2, a3⟩ := ihs _ _ hd h2
      refine ⟨.lst (.inl (.inl h1)) a1, by simpa [toPy, PyData.canLay0] using a2, ?_⟩
      simp only [toPy, PyData.depth]
      omega
    | dct => cases hd
    | ins => cases hd
    | obj => cases hd
    | scr => cases hd
theorem dp_top {d : D} (hd : d.pl 60 = true) (h : RepT T H bk oa v d) : Dp T.K H v (toPy d) ∧ SeqAt.shaped (toPy d) = true := by
  have sh : (toPy d).canLay0 = true → (toPy d).depth ≤ 60 → SeqAt.shaped (toPy d) = true := fun a b => Bool.and_eq_true_iff.mpr ⟨a, decide_eq_true (by omega)⟩
  cases d with
  | lst xs =>
    obtain ⟨a, vs, rfl, h1, h2⟩ := h
    obtain ⟨a1, a2, a3⟩ := dp_of 60 (.lst xs) (.ref a) hd (Rep.lst (bk := fun _ => False) (oa := oa) h1 (fun z => z) (Reps.step (fun _ _ e _ => e) (fun _ z => z.elim) (fun _ _ e => e) _ _ h2))
    exact ⟨a1, sh a2 a3⟩
  | dct => cases hd
  | _ =>
    obtain ⟨a1, a2, a3⟩ := dp_of 60 _ v hd h
    exact ⟨a1, sh a2 a3⟩
end
end B
end

section
set_option Elab.async false
set_option linter.all false
set_option maxRecDepth 100000
set_option maxHeartbeats 1000000
/-! BE: comparisons by values. -/
namespace B
open PySem PySem.Spec PyProof.Rows L2
section
variable {T : Stat} {H H' : Hp} {bk : Addr → Prop} {oa : List Addr} {x y v : V} {X : Cx}
theorem dp_ints {K : PySem.W.Frag} {a : Addr} {xs : List Int} (h : SqL K H a (xs.map V.int)) : Dp K H (.ref a) (.list (xs.map PyData.int)) ∧ SeqAt.shaped (.list (xs.map PyData.int)) = true := by
  have h1 : ∀ xs : List Int, DpAll K H (xs.map V.int) (xs.map PyData.int) := fun xs => by
    induction xs with
    | nil => exact .nil
    | cons x r ih => exact .cons (.int x) ih
  have h2 : ∀ xs : List Int, PyData.canLayAll0 (xs.map PyData.int) = true ∧ PyData.depthAll (xs.map PyData.int) = 0 := fun xs => by
    induction xs with
    | nil => exact ⟨by simp [PyData.canLayAll0], by simp [PyData.depthAll]⟩
    | cons x r ih => exact ⟨by simp [PyData.canLayAll0, PyData.canLay0, ih.1], by simp [PyData.depthAll, PyData.depth, ih.2]⟩
  refine ⟨.lst h (h1 xs), Bool.and_eq_true_iff.mpr ⟨by simpa [PyData.canLay0] using (h2 xs).1, decide_eq_true ?_⟩⟩
  simp only [PyData.depth]
  rw [(h2 xs).2]
  decide
theorem scr_nil {xs : List Int} (hx : RepT T H bk oa x (.scr xs)) (hy : RepT T H bk oa y (.lst [])) : ∃ d e, Dp T.K H x d ∧ Dp T.K H y e ∧ SeqAt.shaped d = true ∧ SeqAt.shaped e = true ∧ PyData.eqv d e = xs.isEmpty := by
  cases hx with
  | scr h1 =>
    obtain ⟨b, ws, rfl, h3, r⟩ := hy.lst_
    cases r
    obtain ⟨a1, a2⟩ := dp_ints (K := T.K) h1.sq
    refine ⟨_, .list [], a1, .lst (.inl (.inl h3)) .nil, a2, by decide, ?_⟩
    cases xs <;> simp [PyData.eqv, PyData.eqvAll]
theorem ok_eqD (hK : T.K = X.K) (hu : X.A.units + 64 < cLine) : OpR X (compareOp .Eq) (rV T Op.eqD.evR) := opr_weak (op_eqD hu) fun x y H Q ⟨bk, oa, dx, dy, r, hx, hy, e, q⟩ => by
  obtain ⟨d, e2, rfl⟩ := Op.evR_some e
  clear e
  by_cases hs : ∃ xs, dx = .scr xs
  · obtain ⟨xs, rfl⟩ := hs
    cases dy with
    | lst ys =>
      cases ys with
      | nil =>
        cases e2
        obtain ⟨d, e, h1, h2, h3, h4, h5⟩ := scr_nil hx hy
        refine ⟨d, e, hK ▸ h1, hK ▸ h2, h3, h4, ?_⟩
        rw [h5]
        exact q _ _ (prim_sc (.bl _))
      | cons => exact nofun_ e2
    | _ => exact nofun_ e2
  · have e' : (if (dx.pl 60 && dy.pl 60) = true then some (D.bl (dx.eqv dy)) else none) = some d := by
      cases dx <;> first | exact e2 | exact absurd ⟨_, rfl⟩ hs
    obtain ⟨c, rfl⟩ := if_some e'
    simp only [Bool.and_eq_true] at c
    obtain ⟨a1, a2⟩ := dp_top c.1 hx
    obtain ⟨b1, b2⟩ := dp_top c.2 hy
    refine ⟨_, _, hK ▸ a1, hK ▸ b1, a2, b2, ?_⟩
    rw [eqv_py 60 _ _ c.1 c.2]
    exact q _ _ (prim_sc (.bl _))
theorem ok_neD (hK : T.K = X.K) (hu : X.A.units + 64 < cLine) : OpR X (compareOp .NotEq) (rV T Op.neD.evR) := opr_weak (op_neD hu) fun x y H Q ⟨bk, oa, dx, dy, r, hx, hy, e, q⟩ => by
  obtain ⟨d, e2, rfl⟩ := Op.evR_some e
  clear e
  by_cases hs : ∃ xs, dx = .scr xs
  · obtain ⟨xs, rfl⟩ := hs
    cases dy with
    | lst ys =>
      cases ys with
      | nil =>
        cases e2
        obtain ⟨d, e, h1, h2, h3, h4, h5⟩ := scr_nil hx hy
        refine ⟨d, e, hK ▸ h1, hK ▸ h2, h3, h4, ?_⟩
        rw [h5]
        exact q _ _ (prim_sc (.bl _))
      | cons => exact nofun_ e2
    | _ => exact nofun_ e2
  · have e' : (if (dx.pl 60 && dy.pl 60) = true then some (D.bl (!dx.eqv dy)) else none) = some d := by
      cases dx <;> first | exact e2 | exact absurd ⟨_, rfl⟩ hs
    obtain ⟨c, rfl⟩ := if_some e'
    simp only [Bool.and_eq_true] at c
    obtain ⟨a1, a2⟩ := dp_top c.1 hx
    obtain ⟨b1, b2⟩ := dp_top c.2 hy
    refine ⟨_, _, hK ▸ a1, hK ▸ b1, a2, b2, ?_⟩
    rw [eqv_py 60 _ _ c.1 c.2]
    exact q _ _ (prim_sc (.bl _))
theorem ok_cmpI {op : CmpOp} {p : Op} {g : Int → Int → Bool} (h : OpR X (compareOp op) (rI0 fun i j => .bl (g i j))) (he : ∀ i j, p.ev (.int i) (.int j) = some (.bl (g i j))) (hk : ∀ d, p.kd d = .fz)
    (h1 : ∀ dx dy, (∀ i, dx ≠ .int i) → p.ev dx dy = none) (h2 : ∀ i dy, (∀ j, dy ≠ .int j) → p.ev (.int i) dy = none) : OpR X (compareOp op) (rV T p.evR) := opr_weak h fun x y H Q ⟨bk, oa, dx, dy, r, hx, hy, e, q⟩ => by
  obtain ⟨d, e2, rfl⟩ := Op.evR_some e
  clear e
  rw [hk] at q
  by_cases c : ∃ i, dx = .int i
  · obtain ⟨i, rfl⟩ := c
    by_cases c : ∃ i, dy = .int i
    · obtain ⟨j, rfl⟩ := c
      rw [he] at e2
      cases e2
      exact ⟨_, _, hx.int_, hy.int_, q _ _ (prim_sc (.bl _))⟩
    · rw [h2 i dy fun j z => c ⟨j, z⟩] at e2
      cases e2
  · rw [h1 dx dy fun j z => c ⟨j, z⟩] at e2
    cases e2
theorem ok_ltI : OpR X (compareOp .Lt) (rV T Op.ltI.evR) := ok_cmpI op_lt (fun _ _ => rfl) (fun _ => rfl) (fun dx dy h => by cases dx <;> first | rfl | exact absurd rfl (h _)) (fun i dy h => by cases dy <;> first | rfl | exact absurd rfl (h _))
theorem ok_leI : OpR X (compareOp .LtE) (rV T Op.leI.evR) := ok_cmpI op_le (fun _ _ => rfl) (fun _ => rfl) (fun dx dy h => by cases dx <;> first | rfl | exact absurd rfl (h _)) (fun i dy h => by cases dy <;> first | rfl | exact absurd rfl (h _))
theorem ok_gtI : OpR X (compareOp .Gt) (rV T Op.gtI.evR) := ok_cmpI op_gt (fun _ _ => rfl) (fun _ => rfl) (fun dx dy h => by cases dx <;> first | rfl | exact absurd rfl (h _)) (fun i dy h => by cases dy <;> first | rfl | exact absurd rfl (h _))
theorem ok_geI : OpR X (compareOp .GtE) (rV T Op.geI.evR) := ok_cmpI op_ge (fun _ _ => rfl) (fun _ => rfl) (fun dx dy h => by cases dx <;> first | rfl | exact absurd rfl (h _)) (fun i dy h => by cases dy <;> first | rfl | exact absurd rfl (h _))
theorem RepT.isNon {d : D} (h : RepT T H bk oa x d) : decide (x = .non) = d.isNon := by
  cases d with
  | lst xs => obtain ⟨a, vs, rfl, _⟩ := h; rfl
  | dct xs => obtain ⟨a, rfl, _⟩ := h; rfl
  | _ => cases h <;> rfl
theorem ok_isN : OpR X (compareOp .Is) (rV T Op.isN.evR) := opr_weak op_isN fun x y H Q ⟨bk, oa, dx, dy, r, hx, hy, e, q⟩ => by
  obtain ⟨d, e2, rfl⟩ := Op.evR_some e
  clear e
  cases dy <;> first | (cases dx <;> exact nofun_ e2) | skip
  refine ⟨hy.non_, ?_⟩
  rw [hx.isNon]
  have : d = .bl dx.isNon := by cases dx <;> (cases e2; rfl)
  subst this
  exact q _ _ (prim_sc (.bl _))
theorem ok_notN : OpR X (compareOp .IsNot) (rV T Op.notN.evR) := opr_weak op_notN fun x y H Q ⟨bk, oa, dx, dy, r, hx, hy, e, q⟩ => by
  obtain ⟨d, e2, rfl⟩ := Op.evR_some e
  clear e
  cases dy <;> first | (cases dx <;> exact nofun_ e2) | skip
  refine ⟨hy.non_, ?_⟩
  rw [hx.isNon]
  have : d = .bl (!dx.isNon) := by cases dx <;> (cases e2; rfl)
  subst this
  exact q _ _ (prim_sc (.bl _))
theorem ok_isB : OpR X (compareOp .Is) (rV T Op.isB.evR) := opr_weak op_is_bl fun x y H Q ⟨bk, oa, dx, dy, r, hx, hy, e, q⟩ => by
  obtain ⟨d, e2, rfl⟩ := Op.evR_some e
  clear e
  cases dx <;> first | exact nofun_ e2 | skip
  cases dy <;> first | exact nofun_ e2 | skip
  cases e2
  exact ⟨_, _, hx.bl_, hy.bl_, q _ _ (prim_sc (.bl _))⟩
theorem ok_notB : OpR X (compareOp .IsNot) (rV T Op.notB.evR) := opr_weak op_isnot_bl fun x y H Q ⟨bk, oa, dx, dy, r, hx, hy, e, q⟩ => by
  obtain ⟨d, e2, rfl⟩ := Op.evR_some e
  clear e
  cases dx <;> first | exact nofun_ e2 | skip
  cases dy <;> first | exact nofun_ e2 | skip
  cases e2
  exact ⟨_, _, hx.bl_, hy.bl_, q _ _ (prim_sc (.bl _))⟩
theorem cont_eq (c : Nat) (t : Txt) : t.contains c = decide (c ∈ (tS t).cps.toList) := by
  rw [tS_list, Bool.eq_iff_iff]
  simp
theorem inS_inv {p : Op} {dx dy d : D} {g : Bool → Bool} (he : ∀ c t, p.ev (.str [c]) (.str t) = some (.bl (g (t.contains c)))) (h0 : ∀ dx dy, (∀ t, dx ≠ .str t) → p.ev dx dy = none) (h1 : ∀ s dy, (∀ t, dy ≠ .str t) → p.ev (.str s) dy = none)
    (h2 : ∀ t, p.ev (.str []) (.str t) = none) (h3 : ∀ a b s t, p.ev (.str (a :: b :: s)) (.str t) = none) (e : p.ev dx dy = some d) : ∃ c t, dx = .str [c] ∧ dy = .str t ∧ d = .bl (g (t.contains c)) := by
  by_cases c : ∃ t, dx = .str t
  · obtain ⟨s, rfl⟩ := c
    by_cases c : ∃ t, dy = .str t
    · obtain ⟨t, rfl⟩ := c
      match s, e with
      | [], e => rw [h2] at e; cases e
      | [c], e => rw [he] at e; cases e; exact ⟨c, t, rfl, rfl, rfl⟩
      | a :: b :: s, e => rw [h3] at e; cases e
    · rw [h1 _ _ fun t z => c ⟨t, z⟩] at e; cases e
  · rw [h0 _ _ fun t z => c ⟨t, z⟩] at e; cases e
theorem ok_inS : OpR X (compareOp .In) (rV T Op.inS.evR) := opr_weak op_in_sign fun x y H Q ⟨bk, oa, dx, dy, r, hx, hy, e, q⟩ => by
  obtain ⟨d, e2, rfl⟩ := Op.evR_some e
  clear e
  obtain ⟨c, t, rfl, rfl, rfl⟩ := inS_inv (g := id) (fun _ _ => rfl) (fun dx dy h => by cases dx <;> first | rfl | exact absurd rfl (h _)) (fun s dy h => by
    match s with
    | [] => cases dy <;> rfl
    | [c] => cases dy <;> first | rfl | exact absurd rfl (h _)
    | a :: b :: s => cases dy <;> rfl) (fun _ => rfl) (fun _ _ _ _ => rfl) e2
  refine ⟨c, tS t, hx.str_.1, hy.str_.1, ?_⟩
  rw [← cont_eq]
  exact q _ _ (prim_sc (.bl _))
theorem ok_notInS : OpR X (compareOp .NotIn) (rV T Op.notInS.evR) := opr_weak op_notIn_sign fun x y H Q ⟨bk, oa, dx, dy, r, hx, hy, e, q⟩ => by
  obtain ⟨d, e2, rfl⟩ := Op.evR_some e
  clear e
  obtain ⟨c, t, rfl, rfl, rfl⟩ := inS_inv (g := not) (fun _ _ => rfl) (fun dx dy h => by cases dx <;> first | rfl | exact absurd rfl (h _)) (fun s dy h => by
    match s with
    | [] => cases dy <;> rfl
    | [c] => cases dy <;> first | rfl | exact absurd rfl (h _)
    | a :: b :: s => cases dy <;> rfl) (fun _ => rfl) (fun _ _ _ _ => rfl) e2
  refine ⟨c, tS t, hx.str_.1, hy.str_.1, ?_⟩
  rw [← cont_eq]
  exact q _ _ (prim_sc (.bl _))
theorem Rep.flat {d : D} (h : Rep T H bk oa v d) (hs : d.isSc = true) : flatV v = true := by
  cases h <;> first | rfl | cases hs
theorem RepT.rep_sc {d : D} (h : RepT T H bk oa v d) (hs : d.isSc = true) : Rep T H bk oa v d := by
  cases d <;> first | exact h | cases hs
theorem Rep.eqv {v w : V} {d e : D} (h : Rep T H bk oa v d) (h' : Rep T H bk oa w e) (hs : d.isSc = true) (hs' : e.isSc = true) : eqV v w = d.eqv e := by
  cases h <;> first | (cases h' <;> first | (simp [eqV, D.eqv, str_beq]; done) | cases hs') | cases hs
theorem Reps.flats {vs : List V} {ds : List D} (r : Reps T H bk oa vs ds) (hs : ds.all D.isSc = true) : vs.all flatV = true := by
  induction vs generalizing ds with
  | nil => rfl
  | cons v vs ih =>
    cases r with
    | cons h r =>
      simp only [List.all_cons, Bool.and_eq_true] at hs ⊢
      exact ⟨h.flat hs.1, ih r hs.2⟩
theorem Reps.any_eqv {vs : List V} {ds : List D} {d : D} (r : Reps T H bk oa vs ds) (h : Rep T H bk oa v d) (hd : d.isSc = true) (hs : ds.all D.isSc = true) : inV v vs = ds.any fun y => y.eqv d := by
  unfold inV
  induction vs generalizing ds with
  | nil => cases r; rfl
  | cons w vs ih =>
    cases r with
    | cons h1 r =>
      simp only [List.all_cons, Bool.and_eq_true] at hs
      rw [List.any_cons, List.any_cons, h1.eqv h hs.1 hd, ih r hs.2]
theorem RepT.items_ {d : D} {xs : List D} (h : RepT T H bk oa x d) (e : d.items = some xs) : ∃ a vs, x = .ref a ∧ (SqL T.K H a vs ∨ SqT T.K H a vs) ∧ Reps T H bk oa vs xs := by
  cases d <;> cases e
  · obtain ⟨a, vs, rfl, h1, h2⟩ := h.tup_
    exact ⟨a, vs, rfl, .inr h1, h2⟩
  · obtain ⟨a, vs, rfl, h1, h2⟩ := h.lst_
    exact ⟨a, vs, rfl, .inl (.inl (.inl h1)), h2⟩
theorem inQ_inv {dx dy d : D} (e : Op.inQ.ev dx dy = some d) : ∃ xs, dy.items = some xs ∧ dx.isSc = true ∧ xs.all D.isSc = true ∧ d = .bl (xs.any fun y => y.eqv dx) := by
  have e' : (match dy.items with | some xs => if dx.isSc && xs.all D.isSc then some (D.bl (xs.any fun y => y.eqv dx)) else none | none => none) = some d := e
  cases h : dy.items with
  | none => rw [h] at e'; cases e'
  | some xs =>
    rw [h] at e'
    obtain ⟨c, rfl⟩ := if_some e'
    simp only [Bool.and_eq_true] at c
    exact ⟨xs, rfl, c.1, c.2, rfl⟩
theorem notInQ_inv {dx dy d : D} (e : Op.notInQ.ev dx dy = some d) : ∃ xs, dy.items = some xs ∧ dx.isSc = true ∧ xs.all D.isSc = true ∧ d = .bl (!xs.any fun y => y.eqv dx) := by
  have e' : (match dy.items with | some xs => if dx.isSc && xs.all D.isSc then some (D.bl (!xs.any fun y => y.eqv dx)) else none | none => none) = some d := e
  cases h : dy.items with
  | none => rw [h] at e'; cases e'
  | some xs =>
    rw [h] at e'
    obtain ⟨c, rfl⟩ := if_some e'
    simp only [Bool.and_eq_true] at c
    exact ⟨xs, rfl, c.1, c.2, rfl⟩
theorem ok_inQ (hK : T.K = X.K) : OpR X (compareOp .In) (rV T Op.inQ.evR) := opr_weak op_in_seq fun x y H Q ⟨bk, oa, dx, dy, r, hx, hy, e, q⟩ => by
  obtain ⟨d, e2, rfl⟩ := Op.evR_some e
  clear e
  obtain ⟨xs, h1, h2, h3, rfl⟩ := inQ_inv e2
  obtain ⟨a, vs, rfl, h4, r⟩ := hy.items_ h1
  refine ⟨a, vs, rfl, hK ▸ h4, (hx.rep_sc h2).flat h2, r.flats h3, ?_⟩
  rw [if_neg Bool.false_ne_true, r.any_eqv (hx.rep_sc h2) h2 h3]
  exact q _ _ (prim_sc (.bl _))
theorem ok_notInQ (hK : T.K = X.K) : OpR X (compareOp .NotIn) (rV T Op.notInQ.evR) := opr_weak op_notIn_seq fun x y H Q ⟨bk, oa, dx, dy, r, hx, hy, e, q⟩ => by
  obtain ⟨d, e2, rfl⟩ := Op.evR_some e
  clear e
  obtain ⟨xs, h1, h2, h3, rfl⟩ := notInQ_inv e2
  obtain ⟨a, vs, rfl, h4, r⟩ := hy.items_ h1
  refine ⟨a, vs, rfl, hK ▸ h4, (hx.rep_sc h2).flat h2, r.flats h3, ?_⟩
  rw [if_pos rfl, r.any_eqv (hx.rep_sc h2) h2 h3]
  exact q _ _ (prim_sc (.bl _))
/-! ### operators by the data -/
theorem rV_as {p p' : Op} {x y : V} {Q : VK} (h : rV T p.evR x y H Q) (w : ∀ bk oa dx dy, RepT T H bk oa x dx → RepT T H bk oa y dy → p.evR dx dy = p'.evR dx dy) : rV T p'.evR x y H Q := by
  obtain ⟨bk, oa, dx, dy, r, hx, hy, e, q⟩ := h
  exact ⟨bk, oa, dx, dy, r, hx, hy, by rw [← w bk oa dx dy hx hy]; exact e, q⟩
theorem evR_none {p : Op} {x y : D} {r : R} {P : Prop} (e : p.evR x y = some r) (h : p.ev x y = none) : P := by
  unfold Op.evR at e
  rw [h] at e
  cases e
theorem evR_eq {p p' : Op} {x y : D} (h : p.ev x y = p'.ev x y) (k : ∀ d, p.ev x y = some d → p.kd d = p'.kd d) : p.evR x y = p'.evR x y := by
  unfold Op.evR
  rw [← h]
  cases e : p.ev x y with
  | none => rfl
  | some d => show some (⟨d, p.kd d⟩ : R) = some ⟨d, p'.kd d⟩; rw [k d e]
theorem ok_add : OpR X (binaryOp .Add) (rV T Op.add.evR) := fun pins s σ H x y v u Q I rx ry ⟨bk, oa, dx, dy, r, hx, hy, e, q⟩ => by
  cases dx <;> first | exact evR_none e rfl | skip
  · cases dy <;> first | exact evR_none e rfl | skip
    exact ok_addI pins s σ H x y v u Q I rx ry ⟨bk, oa, _, _, r, hx, hy, e, q⟩
  · cases dy <;> first | exact evR_none e rfl | skip
    refine ok_addS pins s σ H x y v u Q I rx ry ⟨bk, oa, _, _, r, hx, hy, ?_, q⟩
    rw [← e]
    simp only [Op.evR, Op.ev]
    split <;> rfl
  · cases dy <;> first | exact evR_none e rfl | skip
    refine ok_addL pins s σ H x y v u Q I rx ry ⟨bk, oa, _, _, r, hx, hy, ?_, q⟩
    rw [← e]
    simp only [Op.evR, Op.ev]
    split <;> rfl
theorem ok_mul (hK : T.K = X.K) : OpR X (binaryOp .Mult) (rV T Op.mul.evR) := fun pins s σ H x y v u Q I rx ry ⟨bk, oa, dx, dy, r, hx, hy, e, q⟩ => by
  cases dx <;> first | exact evR_none e rfl | skip
  · cases dy <;> first | exact evR_none e rfl | skip
    refine ok_mulI pins s σ H x y v u Q I rx ry ⟨bk, oa, _, _, r, hx, hy, ?_, q⟩
    rw [← e]
    simp only [Op.evR, Op.ev]
    split <;> rfl
  · cases dy <;> first | exact evR_none e rfl | skip
    refine ok_mulS pins s σ H x y v u Q I rx ry ⟨bk, oa, _, _, r, hx, hy, ?_, q⟩
    rw [← e]
    simp only [Op.evR, Op.ev]
    split <;> rfl
  · cases dy <;> first | exact evR_none e rfl | skip
    refine ok_repT hK pins s σ H x y v u Q I rx ry ⟨bk, oa, _, _, r, hx, hy, ?_, q⟩
    rw [← e]
    simp only [Op.evR, Op.ev]
    split <;> rfl
  · cases dy <;> first | exact evR_none e rfl | skip
    refine ok_repL pins s σ H x y v u Q I rx ry ⟨bk, oa, _, _, r, hx, hy, ?_, q⟩
    rw [← e]
    simp only [Op.evR, Op.ev]
    split <;> rfl
theorem ok_is : OpR X (compareOp .Is) (rV T Op.is_.evR) := fun pins s σ H x y v u Q I rx ry ⟨bk, oa, dx, dy, r, hx, hy, e, q⟩ => by
  cases dy with
  | non =>
    refine ok_isN pins s σ H x y v u Q I rx ry ⟨bk, oa, _, _, r, hx, hy, ?_, q⟩
    rw [← e]
    cases dx <;> rfl
  | bl b =>
    cases dx <;> first | exact evR_none e rfl | skip
    exact ok_isB pins s σ H x y v u Q I rx ry ⟨bk, oa, _, _, r, hx, hy, e, q⟩
  | _ => cases dx <;> exact evR_none e rfl
theorem ok_isNot : OpR X (compareOp .IsNot) (rV T Op.isNot.evR) := fun pins s σ H x y v u Q I rx ry ⟨bk, oa, dx, dy, r, hx, hy, e, q⟩ => by
  cases dy with
  | non =>
    refine ok_notN pins s σ H x y v u Q I rx ry ⟨bk, oa, _, _, r, hx, hy, ?_, q⟩
    rw [← e]
    cases dx <;> rfl
  | bl b =>
    cases dx <;> first | exact evR_none e rfl | skip
    exact ok_notB pins s σ H x y v u Q I rx ry ⟨bk, oa, _, _, r, hx, hy, e, q⟩
  | _ => cases dx <;> exact evR_none e rfl
theorem ok_in (hK : T.K = X.K) : OpR X (compareOp .In) (rV T Op.in_.evR) := fun pins s σ H x y v u Q I rx ry ⟨bk, oa, dx, dy, r, hx, hy, e, q⟩ => by
  by_cases c : (∃ s, dx = .str s) ∧ ∃ t, dy = .str t
  · obtain ⟨⟨s, rfl⟩, t, rfl⟩ := c
    match s, e, hx with
    | [c], e, hx => exact ok_inS pins _ σ H x y v u Q I rx ry ⟨bk, oa, _, _, r, hx, hy, e, q⟩
    | [], e, _ => exact evR_none e rfl
    | _ :: _ :: _, e, _ => exact evR_none e rfl
  · refine ok_inQ hK pins s σ H x y v u Q I rx ry ⟨bk, oa, dx, dy, r, hx, hy, ?_, q⟩
    rw [← e]
    cases dx <;> first | rfl | skip
    cases dy <;> first | rfl | skip
    exact absurd ⟨⟨_, rfl⟩, _, rfl⟩ c
theorem ok_notIn (hK : T.K = X.K) : OpR X (compareOp .NotIn) (rV T Op.notIn.evR) := fun pins s σ H x y v u Q I rx ry ⟨bk, oa, dx, dy, r, hx, hy, e, q⟩ => by
  by_cases c : (∃ s, dx = .str s) ∧ ∃ t, dy = .str t
  · obtain ⟨⟨s, rfl⟩, t, rfl⟩ := c
    match s, e, hx with
    | [c], e, hx => exact ok_notInS pins _ σ H x y v u Q I rx ry ⟨bk, oa, _, _, r, hx, hy, e, q⟩
    | [], e, _ => exact evR_none e rfl
    | _ :: _ :: _, e, _ => exact evR_none e rfl
  · refine ok_notInQ hK pins s σ H x y v u Q I rx ry ⟨bk, oa, dx, dy, r, hx, hy, ?_, q⟩
    rw [← e]
    cases dx <;> first | rfl | skip
    cases dy <;> first | rfl | skip
    exact absurd ⟨⟨_, rfl⟩, _, rfl⟩ c
end
end B
end

section
set_option Elab.async false
set_option linter.all false
set_option maxRecDepth 100000
set_option maxHeartbeats 1000000
/-! BF: built-in functions, methods, subscripts, slices by values. -/
namespace B
open PySem PySem.Spec PyProof.Rows L2
abbrev RepTs (T : Stat) (H : Hp) (bk : Addr → Prop) (oa : List Addr) : List V → List D → Prop := Paired (RepT T H bk oa)
def rL (T : Stat) (ev : List D → Option R) : List V → Hp → VK → Prop := fun vs H Q => ∃ bk oa ds r, RepTs T H bk oa vs ds ∧ ev ds = some r ∧ ∀ v H', Prim T bk oa H r v H' → Q v H'
section
variable {T : Stat} {H H' : Hp} {bk : Addr → Prop} {oa : List Addr} {x y v : V} {X : Cx} {vs : List V} {d e : D}
theorem rts1 (h : RepTs T H bk oa vs [d]) : ∃ x, vs = [x] ∧ RepT T H bk oa x d := by
  cases h with
  | cons a b => cases b; exact ⟨_, rfl, a⟩
theorem rts2 (h : RepTs T H bk oa vs [d, e]) : ∃ x y, vs = [x, y] ∧ RepT T H bk oa x d ∧ RepT T H bk oa y e := by
  cases h with
  | cons a b =>
    cases b with
    | cons b c => cases c; exact ⟨_, _, rfl, a, b⟩
theorem RepT.scr_ {xs : List Int} (h : RepT T H bk oa x (.scr xs)) : ∃ a, x = .ref a ∧ SqL T.K H a (xs.map V.int) := by
  cases h with
  | scr h1 => exact ⟨_, rfl, h1.sq⟩
theorem callr_of {f : Value} {b : Bi} (h : ∀ pins s σ H us Q vs bk oa ds r, Inv X pins σ H s → Vals vs us → RepTs T H bk oa vs ds → b.ev ds = some r → (∀ v H', Prim T bk oa H r v H' → Q v H') →
    wpAny (model X.prog X.w) X.A (call f us) (EP X pins σ Q) X.xe s) : CallR X f (rL T b.ev) := fun pins s σ H vs us Q I r ⟨bk, oa, ds, rr, h1, h2, h3⟩ => h pins s σ H us Q vs bk oa ds rr I r h1 h2 h3
theorem cb_len (hK : T.K = X.K) : CallR X (.builtin "len") (rL T (Bi.len).ev) := callr_of fun pins s σ H us Q vs bk oa ds r I rv h e q => by
  match ds, e, h with
  | [.lst xs], ee, hh =>
    cases ee
    obtain ⟨x, rfl, hx⟩ := rts1 hh
    obtain ⟨a, ws, rfl, h1, h2⟩ := hx.lst_
    exact call_len_seq pins s σ H _ us Q I rv ⟨a, ws, rfl, .inl (.of h1), by rw [h2.len]; exact q _ _ (prim_sc (.int _))⟩
  | [.scr xs], ee, hh =>
    cases ee
    obtain ⟨x, rfl, hx⟩ := rts1 hh
    obtain ⟨a, rfl, h1⟩ := hx.scr_
    exact call_len_seq pins s σ H _ us Q I rv ⟨a, _, rfl, .inl (hK ▸ h1), by rw [List.length_map]; exact q _ _ (prim_sc (.int _))⟩
  | [.tup xs], ee, hh =>
    cases ee
    obtain ⟨x, rfl, hx⟩ := rts1 hh
    obtain ⟨a, ws, rfl, h1, h2⟩ := hx.tup_
    exact call_len_seq pins s σ H _ us Q I rv ⟨a, ws, rfl, .inr (hK ▸ h1), by rw [h2.len]; exact q _ _ (prim_sc (.int _))⟩
  | [.str t], ee, hh =>
    have e' : (if t.length ≤ bigL then some (R.mk (.int t.length) .fz) else none) = some r := ee
    simp only [Option.ite_none_right_eq_some, Option.some.injEq] at e'
    obtain ⟨c, rfl⟩ := e'
    obtain ⟨x, rfl, hx⟩ := rts1 hh
    obtain ⟨rfl, o⟩ := hx.str_
    exact call_len_str pins s σ H _ us Q I rv ⟨_, rfl, by rw [tS_len]; exact Nat.le_trans c (by decide), by rw [tS_len]; exact q _ _ (prim_sc (.int _))⟩
theorem cb_abs : CallR X (.builtin "abs") (rL T (Bi.abs).ev) := callr_of fun pins s σ H us Q vs bk oa ds r I rv h e q => by
  match ds, e, h with
  | [.int i], ee, hh =>
    cases ee
    obtain ⟨x, rfl, hx⟩ := rts1 hh
    cases hx.int_
    exact call_abs pins s σ H _ us Q I rv ⟨i, rfl, q _ _ (prim_sc (.int _))⟩
theorem cb_max (hc : X.calm = true) : CallR X (.builtin "max") (rL T (Bi.max).ev) := callr_of fun pins s σ H us Q vs bk oa ds r I rv h e q => by
  match ds, e, h with
  | [.int i, .int j], ee, hh =>
    cases ee
    obtain ⟨x, y, rfl, hx, hy⟩ := rts2 hh
    cases hx.int_
    cases hy.int_
    exact call_max2 hc pins s σ H _ us Q I rv ⟨i, j, rfl, q _ _ (prim_sc (.int _))⟩
theorem cb_min (hc : X.calm = true) : CallR X (.builtin "min") (rL T (Bi.min).ev) := callr_of fun pins s σ H us Q vs bk oa ds r I rv h e q => by
  match ds, e, h with
  | [.int i, .int j], ee, hh =>
    cases ee
    obtain ⟨x, y, rfl, hx, hy⟩ := rts2 hh
    cases hx.int_
    cases hy.int_
    exact call_min2 hc pins s σ H _ us Q I rv ⟨i, j, rfl, q _ _ (prim_sc (.int _))⟩
theorem map_some {α β : Type} {o : Option α} {f : α → β} {b : β} (e : o.map f = some b) : ∃ a, o = some a ∧ b = f a := by
  cases o with
  | none => cases e
  | some a => cases e; exact ⟨a, rfl, rfl⟩
theorem bind_some {α β : Type} {o : Option α} {f : α → Option β} {b : β} (e : o.bind f = some b) : ∃ a, o = some a ∧ f a = some b := by
  cases o with
  | none => cases e
  | some a => exact ⟨a, rfl, e⟩
theorem cb_all (hc : X.calm = true) : CallR X (.builtin "all") (rL T (Bi.all).ev) := callr_of fun pins s σ H us Q vs bk oa ds r I rv h e q => by
  match ds, e, h with
  | [.lst xs], ee, hh =>
    obtain ⟨bs, e1, rfl⟩ := map_some (show (bls xs).map (fun b => R.mk (.bl (b.all id)) .fz) = some r from ee)
    obtain ⟨x, rfl, hx⟩ := rts1 hh
    obtain ⟨a, ws, rfl, h1, h2⟩ := hx.lst_
    have := h2.of_bls e1
    subst this
    exact cr_all hc pins s σ H _ us Q I rv ⟨a, bs, rfl, .of h1, q _ _ (prim_sc (.bl _))⟩
theorem cb_any (hc : X.calm = true) : CallR X (.builtin "any") (rL T (Bi.any).ev) := callr_of fun pins s σ H us Q vs bk oa ds r I rv h e q => by
  match ds, e, h with
  | [.lst xs], ee, hh =>
    obtain ⟨bs, e1, rfl⟩ := map_some (show (bls xs).map (fun b => R.mk (.bl (b.any id)) .fz) = some r from ee)
    obtain ⟨x, rfl, hx⟩ := rts1 hh
    obtain ⟨a, ws, rfl, h1, h2⟩ := hx.lst_
    have := h2.of_bls e1
    subst this
    exact cr_any hc pins s σ H _ us Q I rv ⟨a, bs, rfl, .of h1, q _ _ (prim_sc (.bl _))⟩
theorem cb_list : CallR X (.type "list") (rL T (Bi.list).ev) := callr_of fun pins s σ H us Q vs bk oa ds r I rv h e q => by
  match ds, e, h with
  | [.lst xs], ee, hh =>
    cases ee
    obtain ⟨x, rfl, hx⟩ := rts1 hh
    obtain ⟨a, ws, rfl, h1, h2⟩ := hx.lst_
    exact call_list_of pins s σ H _ us Q I rv ⟨a, ws, rfl, .inl (.of h1), fun p hp => q _ _ (prim_new h2 hp)⟩
theorem strI_eq (i : Int) : Str.ofString (toString i) = tS (strI i) := by
  rw [Str.ofString_eq_toList]
  unfold tS strI
  congr 2
  cases i with
  | ofNat n =>
    rw [if_neg (by have : Int.ofNat n = (n : Int) := rfl; omega)]
    show (toString n).toList.map Char.toNat = figs n
    unfold figs
    show (Nat.repr n).toList.map Char.toNat = _
    rw [Nat.toList_repr]
  | negSucc n =>
    rw [if_pos (by omega)]
    show ("-" ++ Nat.repr (n + 1)).toList.map Char.toNat = 45 :: figs (n + 1)
    rw [String.toList_append, List.map_append, Nat.toList_repr]
    rfl
theorem okT_figs (n : Nat) : okT (figs n) := fun c hc => by
  have := TL.numL_digits n c hc
  omega
theorem okT_strI (i : Int) : okT (strI i) := by
  unfold strI
  split
  · exact fun c hc => (List.mem_cons.mp hc).elim (fun z => by omega) (okT_figs _ c)
  · exact okT_figs _
theorem log_of {n k m : Nat} (h : n < 2 ^ k) (hk : 0 < k) (h2 : k ≤ m) : n.log2 < m := by
  have := PySem.Flt.log2_lt_of hk h
  omega
theorem cb_str : CallR X (.type "str") (rL T (Bi.str).ev) := callr_of fun pins s σ H us Q vs bk oa ds r I rv h e q => by
  match ds, e, h with
  | [.int i], ee, hh =>
    have e' : (if i.natAbs < 2 ^ 1000 then some (R.mk (.str (strI i)) .fz) else none) = some r := ee
    rw [Option.ite_none_right_eq_some] at e'
    obtain ⟨c, e'⟩ := e'
    cases e'
    obtain ⟨x, rfl, hx⟩ := rts1 hh
    cases hx.int_
    refine call_str_int pins s σ H _ us Q I rv ⟨i, rfl, log_of c (by decide) (by decide), ?_⟩
    rw [strI_eq]
    exact q _ _ (prim_sc (.str (okT_strI i)))
theorem numT_eq (t : Txt) : PySem.NumText.digitsVal t = numT t := by
  unfold PySem.NumText.digitsVal numT
  congr 1
  funext a c
  rw [Nat.mul_comm]
theorem cb_int : CallR X (.type "int") (rL T (Bi.int).ev) := callr_of fun pins s σ H us Q vs bk oa ds r I rv h e q => by
  match ds, e, h with
  | [.str t], ee, hh =>
    have e' : (if (decide (t.length ≤ 640) && decide (t ≠ []) && allFigs t) = true then some (R.mk (.int (numT t)) .fz) else none) = some r := ee
    rw [Option.ite_none_right_eq_some] at e'
    obtain ⟨c, e'⟩ := e'
    cases e'
    simp only [Bool.and_eq_true, decide_eq_true_eq] at c
    obtain ⟨x, rfl, hx⟩ := rts1 hh
    obtain ⟨rfl, o⟩ := hx.str_
    have ad : PySem.NumText.AllDigits (tS t).cps.toList := by
      rw [tS_list]
      intro d hd
      have := List.all_eq_true.mp c.2 d hd
      simpa using this
    refine call_int_str pins s σ H _ us Q I rv ⟨_, numT t, rfl, ?_, by rw [tS_len]; exact c.1.1, q _ _ (prim_sc (.int _))⟩
    rw [PySem.intText_digits ad (by rw [tS_list]; exact c.1.2) (by rw [tS_len]; omega), tS_list, numT_eq]
end
end B
end

section
set_option Elab.async false
set_option linter.all false
set_option maxRecDepth 100000
set_option maxHeartbeats 1000000
/-! BG: methods, subscripts, slices by values. -/
namespace B
open PySem PySem.Spec PyProof.Rows L2
def rM (T : Stat) (m : Mt) : V → List V → Hp → VK → Prop := fun x vs H Q => ∃ bk oa dx ds r, RepT T H bk oa x dx ∧ RepTs T H bk oa vs ds ∧ m.ev dx ds = some r ∧ ∀ v H', Prim T bk oa H r v H' → Q v H'
section
variable {T : Stat} {H H' : Hp} {bk : Addr → Prop} {oa : List Addr} {x y v : V} {X : Cx} {vs : List V} {d e : D}
theorem mtr_of {id : String} {m : Mt} (h : ∀ pins s σ H u us Q x vs bk oa dx ds r, Inv X pins σ H s → RelV x u → Vals vs us → RepT T H bk oa x dx → RepTs T H bk oa vs ds → m.ev dx ds = some r → (∀ v H', Prim T bk oa H r v H' → Q v H') →
    wpAny (model X.prog X.w) X.A (call (.builtin id) (u :: us)) (EP X pins σ Q) X.xe s) : MtR X id (rM T m) := fun pins s σ H x vs u us Q I rx r ⟨bk, oa, dx, ds, rr, h0, h1, h2, h3⟩ => h pins s σ H u us Q x vs bk oa dx ds rr I rx r h0 h1 h2 h3
theorem starts_eq (t u : Txt) : Txt.startswith (tS t) (tS u) = u.isPrefixOf t := by
  unfold Txt.startswith
  rw [StrLaws.subAt_eq, tS_list, tS_list, tS_len, tS_len, Nat.zero_add, List.drop_zero]
  rw [Bool.eq_iff_iff, List.isPrefixOf_iff_prefix, Bool.and_eq_true, decide_eq_true_eq, beq_iff_eq]
  constructor
  · rintro ⟨h1, h2⟩
    rw [← h2]
    exact List.take_prefix _ _
  · rintro ⟨r, rfl⟩
    refine ⟨by rw [List.length_append]; omega, by simp⟩
theorem cm_starts : MtR X "str.startswith" (rM T .starts) := mtr_of fun pins s σ H u us Q x vs bk oa dx ds r I ru rv hx hs e q => by
  match dx, ds, e, hx, hs with
  | .str t, [.str y], ee, hx, hs =>
    have e' : (if (decide (t.length ≤ bigL) && decide (y.length ≤ bigL)) = true then some (R.mk (.bl (y.isPrefixOf t)) .fz) else none) = some r := ee
    rw [Option.ite_none_right_eq_some] at e'
    obtain ⟨c, e'⟩ := e'
    cases e'
    obtain ⟨rfl, o⟩ := hx.str_
    obtain ⟨z, rfl, hz⟩ := rts1 hs
    obtain ⟨rfl, o2⟩ := hz.str_
    refine mt_startswith pins s σ H _ _ u us Q I ru rv ⟨_, _, rfl, rfl, ?_⟩
    rw [starts_eq]
    exact q _ _ (prim_sc (.bl _))
theorem at_one {t : Txt} {c i : Nat} : StrLaws.At (tS t) (tS [c]) (tS t).length i ↔ t[i]? = some c := by
  unfold StrLaws.At
  rw [StrLaws.subAt_eq, tS_list, tS_list, tS_len, tS_len]
  constructor
  · rintro ⟨h1, h2⟩
    have h2 := eq_of_beq h2
    have h3 := congrArg (fun l => l[0]?) h2
    simpa [List.getElem?_take, List.getElem?_drop] using h3
  · intro h
    have hl : i < t.length := (List.getElem?_eq_some_iff.mp h).1
    refine ⟨by simp; omega, ?_⟩
    rw [beq_iff_eq]
    rw [List.drop_eq_getElem_cons hl]
    simp only [List.length_cons, List.length_nil, Nat.zero_add, List.take_succ_cons, List.take_zero]
    rw [(List.getElem?_eq_some_iff.mp h).2]
theorem posOf_at {c : Nat} : ∀ {t : Txt} {i : Nat}, t[i]? = some c → (∀ k, k < i → t[k]? ≠ some c) → posOf c t = i
  | [], i, h, _ => by simp at h
  | x :: r, 0, h, _ => by
    have : x = c := by simpa using h
    simp [posOf, this]
  | x :: r, i + 1, h, hn => by
    have hx : x ≠ c := fun z => hn 0 (by omega) (by simp [z])
    unfold posOf
    rw [if_neg hx, posOf_at (i := i) (by simpa using h) fun k hk => by
      have := hn (k + 1) (by omega)
      simpa using this]
theorem cm_indexS : MtR X "str.index" (rM T .indexS) := mtr_of fun pins s σ H u us Q x vs bk oa dx ds r I ru rv hx hs e q => by
  match dx, ds, e, hx, hs with
  | .str t, [.str [c]], ee, hx, hs =>
    have e' : (if (t.contains c && decide (t.length ≤ bigL)) = true then some (R.mk (.int (posOf c t)) .fz) else none) = some r := ee
    rw [Option.ite_none_right_eq_some] at e'
    obtain ⟨cc, e'⟩ := e'
    cases e'
    simp only [Bool.and_eq_true, List.contains_iff_mem] at cc
    obtain ⟨rfl, o⟩ := hx.str_
    obtain ⟨z, rfl, hz⟩ := rts1 hs
    obtain ⟨rfl, o2⟩ := hz.str_
    rcases StrLaws.occ_head (tS t) (tS [c]) 1 (Nat.le_refl 1) with ⟨_, hn⟩ | ⟨i, rest, h0, h1, h2⟩
    · obtain ⟨i, hi, e3⟩ := List.mem_iff_getElem.mp cc.1
      exact absurd (at_one.mpr (by rw [List.getElem?_eq_getElem hi, e3])) (hn i)
    · refine mt_sindex pins s σ H _ _ u us Q I ru rv ⟨_, _, i, rest, rfl, rfl, h0, ?_⟩
      rw [← posOf_at (at_one.mp h1) fun k hk z => h2 k hk (at_one.mpr z)]
      exact q _ _ (prim_sc (.int _))
theorem joinT_eq (sep : Txt) : ∀ ts : List Txt, Txt.join (tS sep) (ts.map tS) = tS (joinT sep ts) := by
  intro ts
  rw [TL.join_eq]
  induction ts with
  | nil => rfl
  | cons t r ih =>
    cases r with
    | nil => rfl
    | cons u r =>
      show tS t ++ tS sep ++ Str.join (tS sep) ((u :: r).map tS) = tS (t ++ sep ++ joinT sep (u :: r))
      rw [ih, tS_app, tS_app]
theorem okT_join {sep : Txt} (h : okT sep) : ∀ ts : List Txt, (∀ t ∈ ts, okT t) → okT (joinT sep ts)
  | [], _ => fun _ z => absurd z List.not_mem_nil
  | [t], q => q t List.mem_cons_self
  | t :: u :: r, q => okT_app (okT_app (q t List.mem_cons_self) h) (okT_join h (u :: r) fun z hz => q z (List.mem_cons_of_mem _ hz))
theorem cm_join : MtR X "str.join" (rM T .join) := mtr_of fun pins s σ H u us Q x vs bk oa dx ds r I ru rv hx hs e q => by
  match dx, ds, e, hx, hs with
  | .str t, [.lst xs], ee, hx, hs =>
    obtain ⟨ts, e1, e2⟩ := bind_some (show (txts xs).bind (fun s => if (s.map List.length).sum + s.length * t.length ≤ bigL then some (R.mk (.str (joinT t s)) .fz) else none) = some r from ee)
    rw [Option.ite_none_right_eq_some] at e2
    obtain ⟨c, e2⟩ := e2
    cases e2
    obtain ⟨rfl, o⟩ := hx.str_
    obtain ⟨z, rfl, hz⟩ := rts1 hs
    obtain ⟨a, ws, rfl, h1, h2⟩ := hz.lst_
    obtain ⟨rfl, ok⟩ := h2.of_txts e1
    refine mt_join pins s σ H _ _ u us Q I ru rv ⟨_, a, ts.map tS, rfl, rfl, .inl (.of h1), ?_, ?_⟩
    · have e5 : (ts.map tS).map (·.length) = ts.map List.length := by
        rw [List.map_map]
        exact List.map_congr_left fun t _ => tS_len t
      rw [e5, List.length_map, tS_len]
      exact Nat.le_trans c (by decide)
    · rw [joinT_eq]
      exact q _ _ (prim_sc (.str (okT_join o ts ok)))
theorem Rep.eqvV {d e : D} {v w : V} (h : Rep T H bk oa v d) (h' : Rep T H bk oa w e) (hs : d.isSc = true) (hs' : e.isSc = true) : eqV v w = d.eqv e := Rep.eqv h h' hs hs'
end
end B
end

section
set_option Elab.async false
set_option linter.all false
set_option maxRecDepth 100000
set_option maxHeartbeats 1000000
/-! BH: rules for expressions, one by one. -/
namespace B
open PySem PySem.Spec PyProof.Rows L2
section
variable {T : Stat} {G : Sg} {W : WX} {X : Cx} {a b c : Expr} {ea eb ec : E} {pos : Pos}
abbrev tT (T : Stat) (G : Sg) (W : WX) (e : E) : TT := tTest (tE T G W e)
theorem e_var {i : Nat} {x : Str} (hN : X.N[i]? = some x) (hv : Vis X.env.scope x) (hd : (x == ("__debug__" : Str)) = false) (hcd : (x == ("__classdict__" : Str)) = false) : PE X (.Name x pos) (tE T G W (.var i)) :=
  pe_weak (pe_var hN hv hd hcd) fun σ H Q ⟨B, H0, en, o, ow, oa, S, h⟩ => by
    have h' : Good T B ow W σ oa H (match en[i]? with
      | some (.val r) => .ok r.pass o
      | some (.own xs) => .ok ⟨.lst xs, .al⟩ o
      | some (.ownd kvs) => .ok ⟨.dct kvs, .al⟩ o
      | _ => .bad) Q := h
    cases e : en[i]? with
    | none => rw [e] at h'; exact h'.elim
    | some s =>
      rw [e] at h'
      cases s with
      | none => exact h'.elim
      | val r =>
        obtain ⟨v, h1, h2, h3⟩ := S.val i r e
        refine ⟨v, h1, h' v H oa (.refl S.obs) ?_⟩
        unfold RepR R.pass
        by_cases hk : r.k = .al
        · simp only [hk, if_true]
          exact h2
        · simp only [hk, if_false]
          exact h3 hk
      | own xs =>
        obtain ⟨p, vs, h1, h2, h3, h4⟩ := S.own i xs e
        exact ⟨_, h2, h' _ H oa (.refl S.obs) ⟨p, vs, rfl, h3, h4⟩⟩
      | ownd kvs =>
        obtain ⟨p, h1, h2, h3, h4⟩ := S.ownd i kvs e
        exact ⟨_, h2, h' _ H oa (.refl S.obs) ⟨p, rfl, h3, h4⟩⟩
theorem e_con {e : E} {v : V} {d : D} (h : PE X a (tC v)) (he : ∀ en o, e.ev G en o = .ok ⟨d, .fz⟩ o) (r : ∀ H bk oa, Rep T H bk oa v d) : PE X a (tE T G W e) :=
  pe_weak h fun σ H Q ⟨B, H0, en, o, ow, oa, S, h⟩ => by
    rw [he] at h
    exact h v H oa (.refl S.obs) (r _ _ _)
theorem e_int {i j} : PE X (.Constant (.int i) j pos) (tE T G W (.int i)) := e_con pe_int (fun _ _ => rfl) fun _ _ _ => .int _
theorem e_bl {i j} : PE X (.Constant (.bool i) j pos) (tE T G W (.bl i)) := e_con pe_bl (fun _ _ => rfl) fun _ _ _ => .bl _
theorem e_non {j} : PE X (.Constant .none j pos) (tE T G W .non) := e_con pe_non (fun _ _ => rfl) fun _ _ _ => .non
theorem e_str {s : Txt} {j} (h : okT s) : PE X (.Constant (.str (tS s)) j pos) (tE T G W (.str s)) := e_con pe_str (fun _ _ => rfl) fun _ _ _ => .str h
theorem e_glb {x : Str} {v : V} {u : Value} {j : Nat} (hg : Gl X x) (hm : X.mg x = some u) (r : RelV v u) (hr : ∀ H bk oa, Rep T H bk oa v (G.ct j)) (hd : (x == ("__debug__" : Str)) = false) : PE X (.Name x pos) (tE T G W (.glb j)) :=
  e_con (pe_glob hg hm r hd) (fun _ _ => rfl) hr
variable {B : Addr → Prop} {H0 H H1 H2 H' : Hp} {en : Env} {o o1 o2 o' : Objs} {σ : St} {ow : Nat → Option Addr} {oa oa1 oa2 oa' : List Addr} {bk : Addr → Prop} {r : R} {v : V} {Q : VK}
/-- two parts, then an operation on their values -/
theorem bin_of {p : D → D → Option R} (S : SR T B H0 en o σ H ow oa) (h : Good T B ow W σ oa H ((ea.ev G en o).bind fun x o => (eb.ev G en o).bind fun y o => ofO o (p x.d y.d)) Q) :
    tOp (rV T p) (tE T G W ea) (tE T G W eb) σ H Q :=
  good_a S h fun r1 o1 x H1 oa1 E1 R1 S1 h1 => good_a S1 h1 fun r2 o2 y H2 oa2 E2 R2 S2 h2 => by
    obtain ⟨r, e, h3⟩ := h2.ofO
    exact ⟨bkS B ow oa2, oa2, r1.d, r2.d, r, E2.repT S1.obs (R1.top S1), R2.top S2, e, fun v H' P => P.good S2 h3⟩
theorem e_op {p : Op} {op : Operator} (ho : OpR X (binaryOp op) (rV T p.evR)) (ha : PE X a (tE T G W ea)) (hb : PE X b (tE T G W eb)) : PE X (.BinOp a op b pos) (tE T G W (.op p ea eb)) :=
  pe_weak (pe_op ho ha hb) fun σ H Q ⟨B, H0, en, o, ow, oa, S, h⟩ => bin_of S h
theorem e_cmp {p : Op} {op : CmpOp} (ho : OpR X (compareOp op) (rV T p.evR)) (ha : PE X a (tE T G W ea)) (hb : PE X b (tE T G W eb)) (hm : behindInMarks op b = false) : PE X (.Compare a [op] [b] pos) (tE T G W (.op p ea eb)) :=
  pe_weak (pe_cmpR ho ha hb hm) fun σ H Q ⟨B, H0, en, o, ow, oa, S, h⟩ => bin_of S h
theorem t_cmp {p : Op} {op : CmpOp} (ho : OpR X (compareOp op) (rV T p.evR)) (ha : PE X a (tE T G W ea)) (hb : PE X b (tE T G W eb)) (hm : behindInMarks op b = false) : PT X (.Compare a [op] [b] pos) (tT T G W (.op p ea eb)) :=
  pt_weak (pt_cmpR ho ha hb hm) fun σ H Q ⟨B, H0, en, o, ow, oa, S, h⟩ => bin_of S h
theorem chain_of {p q : Op} (hp : ∀ d, p.kd d = .fz) (hq : ∀ d, q.kd d = .fz) (S : SR T B H0 en o σ H ow oa) (h : Good T B ow W σ oa H ((E.chain p q ea eb ec).ev G en o) Q) : tChain (rV T p.evR) (rV T q.evR) (tE T G W ea) (tE T G W eb) (tE T G W ec) σ H Q := by
  refine good_a S (show Good T B ow W σ oa H ((ea.ev G en o).bind fun x o => (eb.ev G en o).bind fun y o => match p.ev x.d y.d with
    | some (.bl true) => (ec.ev G en o).bind fun z o => ofO o ((q.ev y.d z.d).map fun d => ⟨d, .fz⟩)
    | some (.bl false) => .ok ⟨.bl false, .fz⟩ o
    | _ => .bad) Q from h) fun r1 o1 x H1 oa1 E1 R1 S1 h1 => good_a S1 h1 fun r2 o2 y H2 oa2 E2 R2 S2 h2 => ?_
  cases e : p.ev r1.d r2.d with
  | none => rw [e] at h2; exact h2.elim
  | some d =>
    refine ⟨bkS B ow oa2, oa2, r1.d, r2.d, ⟨d, .fz⟩, E2.repT S1.obs (R1.top S1), R2.top S2, by unfold Op.evR; rw [e]; show some (⟨d, p.kd d⟩ : R) = _; rw [hp], fun v H' P => ?_⟩
    have P' : (H' = H2 ∧ Rep T H2 (bkS B ow oa2) oa2 v d) ∨ _ := P
    cases d with
    | bl k =>
      rcases P' with ⟨rfl, P'⟩ | ⟨_, _, _, z, _⟩
      · cases P'
        refine ⟨k, rfl, ?_⟩
        rw [e] at h2
        cases k with
        | true =>
          rw [if_pos rfl]
          refine good_a S2 h2 fun r3 o3 z H3 oa3 E3 R3 S3 h3 => ?_
          obtain ⟨r, e4, h4⟩ := h3.ofO
          refine ⟨bkS B ow oa3, oa3, r2.d, r3.d, r, E3.repT S2.obs (R2.top S2), R3.top S3, ?_, fun v H' P => P.good S3 h4⟩
          unfold Op.evR
          simp only [hq]
          exact e4
        | false =>
          rw [if_neg Bool.false_ne_true]
          exact h2 _ _ oa2 (.refl S2.obs) (.bl _)
      · cases z
    | _ => rw [e] at h2; exact h2.elim
theorem e_chain {p q : Op} {op op' : CmpOp} (hp : ∀ d, p.kd d = .fz) (hq : ∀ d, q.kd d = .fz) (ho : OpR X (compareOp op) (rV T p.evR)) (ho' : OpR X (compareOp op') (rV T q.evR)) (ha : PE X a (tE T G W ea)) (hb : PE X b (tE T G W eb)) (hc : PE X c (tE T G W ec)) (hm : lastMarks [op, op'] [b, c] = false) :
    PE X (.Compare a [op, op'] [b, c] pos) (tE T G W (.chain p q ea eb ec)) := pe_weak (pe_chain ho ho' ha hb hc hm) fun σ H Q ⟨B, H0, en, o, ow, oa, S, h⟩ => chain_of hp hq S h
theorem t_chain {p q : Op} {op op' : CmpOp} (hp : ∀ d, p.kd d = .fz) (hq : ∀ d, q.kd d = .fz) (ho : OpR X (compareOp op) (rV T p.evR)) (ho' : OpR X (compareOp op') (rV T q.evR)) (ha : PE X a (tE T G W ea)) (hb : PE X b (tE T G W eb)) (hc : PE X c (tE T G W ec)) (hm : lastMarks [op, op'] [b, c] = false) :
    PT X (.Compare a [op, op'] [b, c] pos) (tT T G W (.chain p q ea eb ec)) := pt_weak (pt_chain ho ho' ha hb hc hm) fun σ H Q ⟨B, H0, en, o, ow, oa, S, h⟩ => chain_of hp hq S h
theorem e_neg (ha : PE X a (tE T G W ea)) : PE X (.UnaryOp .USub a pos) (tE T G W (.neg ea)) :=
  pe_weak (pe_un un_neg ha) fun σ H Q ⟨B, H0, en, o, ow, oa, S, h⟩ => good_a S (f := fun x o => match x.d with
    | .int i => .ok ⟨.int (-i), .fz⟩ o
    | _ => .bad) h fun r1 o1 x H1 oa1 E1 R1 S1 h1 => by
    have t := R1.top S1
    cases hd : r1.d <;> rw [hd] at t <;> simp only [hd] at h1 <;> first | exact h1.elim | skip
    exact ⟨_, t.int_, h1 _ _ oa1 (.refl S1.obs) (.int _)⟩
/-- a part that is a truth -/
theorem test_of {f : R → Objs → Rs R} {g : Bool → Objs → Rs R} {Rk : Bool → Hp → Prop} (S : SR T B H0 en o σ H ow oa) (h : Good T B ow W σ oa H ((ea.ev G en o).bind f) Q) (hf : ∀ b k o, f ⟨.bl b, k⟩ o = g b o) (hn : ∀ r o, (∀ b, r.d ≠ .bl b) → f r o = .bad)
    (k : ∀ b o1 H1 oa1, SR T B H0 en o1 σ H1 ow oa1 → Good T B ow W σ oa1 H1 (g b o1) Q → Rk b H1) : tT T G W ea σ H Rk :=
  good_a S h fun r1 o1 x H1 oa1 E1 R1 S1 h1 => by
    have t := R1.top S1
    obtain ⟨d, kd⟩ := r1
    cases d with
    | bl b =>
      rw [hf] at h1
      exact ⟨b, t.bl_, k b o1 H1 oa1 S1 h1⟩
    | _ =>
      rw [hn _ _ fun b z => by cases z] at h1
      exact h1.elim
theorem not_bad {α : Type} {r : R} {x y z : α} (h : ∀ b, r.d ≠ .bl b) : (match r.d with | .bl true => x | .bl false => y | _ => z) = z := by
  cases hd : r.d with
  | bl b => exact absurd hd (h b)
  | _ => rfl
theorem not_bad1 {α : Type} {r : R} {x : Bool → α} {z : α} (h : ∀ b, r.d ≠ .bl b) : (match r.d with | .bl b => x b | _ => z) = z := by
  cases hd : r.d with
  | bl b => exact absurd hd (h b)
  | _ => rfl
theorem t_val (ha : PE X a (tE T G W ea)) (he : ∀ whole, isTrue a X.env whole = (do let v ← whole; standAt a.pos; holding [v] (truthy v))) : PT X a (tT T G W ea) := pt_val ha he
theorem and_of (S : SR T B H0 en o σ H ow oa) (h : Good T B ow W σ oa H ((E.and ea eb).ev G en o) Q) : tT T G W ea σ H fun c H1 => if c = true then tE T G W eb σ H1 Q else Q (.bl false) H1 :=
  test_of (f := fun x o => match x.d with
    | .bl true => eb.ev G en o
    | .bl false => .ok ⟨.bl false, .fz⟩ o
    | _ => .bad) (g := fun b o => if b then eb.ev G en o else .ok ⟨.bl false, .fz⟩ o) S h (fun b k o => by cases b <;> rfl) (fun r o => not_bad) fun b o1 H1 oa1 S1 h1 => by
    cases b with
    | true => exact iteT ⟨B, H0, en, o1, ow, oa1, S1, h1⟩
    | false => exact iteF (h1 _ _ oa1 (.refl S1.obs) (.bl _))
theorem or_of (S : SR T B H0 en o σ H ow oa) (h : Good T B ow W σ oa H ((E.or ea eb).ev G en o) Q) : tT T G W ea σ H fun c H1 => if c = true then Q (.bl true) H1 else tE T G W eb σ H1 Q :=
  test_of (f := fun x o => match x.d with
    | .bl true => .ok ⟨.bl true, .fz⟩ o
    | .bl false => eb.ev G en o
    | _ => .bad) (g := fun b o => if b then .ok ⟨.bl true, .fz⟩ o else eb.ev G en o) S h (fun b k o => by cases b <;> rfl) (fun r o => not_bad) fun b o1 H1 oa1 S1 h1 => by
    cases b with
    | true => exact iteT (h1 _ _ oa1 (.refl S1.obs) (.bl _))
    | false => exact iteF ⟨B, H0, en, o1, ow, oa1, S1, h1⟩
theorem tT_mono {e : E} {Q Q' : Bool → Hp → Prop} (h : tT T G W e σ H Q) (w : ∀ b H, Q b H → Q' b H) : tT T G W e σ H Q' := by
  obtain ⟨B, H0, en, o, ow, oa, S, h⟩ := h
  refine ⟨B, H0, en, o, ow, oa, S, ?_⟩
  cases he : e.ev G en o with
  | ok r o1 =>
    rw [he] at h
    exact fun v H' oa' a b => let ⟨k, e, q⟩ := h v H' oa' a b; ⟨k, e, w _ _ q⟩
  | exc => rw [he] at h; exact h
  | bad => rw [he] at h; exact h
theorem e_one {op : BoolOp} (ha : PE X a (tE T G W ea)) : PE X (.BoolOp op [a] pos) (tE T G W (.one ea)) := pe_weak (pe_one ha) fun σ H Q h => h
theorem w_one1 (ha : PT X a (tT T G W ea)) : PW X (.BoolOp .And [a] pos) (tT T G W (.one ea)) := pw_and1 ha
theorem w_one2 (ha : PT X a (tT T G W ea)) : PW X (.BoolOp .Or [a] pos) (tT T G W (.one ea)) := pw_or1 ha
variable {rest : List Expr}
theorem tE_tB {e : E} {Q : VK} (h : tT T G W e σ H fun c H1 => Q (.bl c) H1) : tE T G W e σ H fun x H1 => ∃ c, x = .bl c ∧ Q x H1 := by
  obtain ⟨B, H0, en, o, ow, oa, S, h⟩ := h
  refine ⟨B, H0, en, o, ow, oa, S, ?_⟩
  cases he : e.ev G en o with
  | ok r o1 =>
    rw [he] at h
    exact fun v H' oa' a b => let ⟨k, e, q⟩ := h v H' oa' a b; ⟨k, e, by rw [e]; exact q⟩
  | exc => rw [he] at h; exact h
  | bad => rw [he] at h; exact h
theorem e_and (ha : PE X a (tE T G W ea)) (hb : PE X (.BoolOp .And (b :: rest) pos) (tE T G W eb)) : PE X (.BoolOp .And (a :: b :: rest) pos) (tE T G W (.and ea eb)) :=
  pe_weak (pe_and ha hb) fun σ H Q ⟨B, H0, en, o, ow, oa, S, h⟩ => and_of S h
theorem e_or (ha : PE X a (tE T G W ea)) (hb : PE X (.BoolOp .Or (b :: rest) pos) (tE T G W eb)) : PE X (.BoolOp .Or (a :: b :: rest) pos) (tE T G W (.or ea eb)) :=
  pe_weak (pe_or ha hb) fun σ H Q ⟨B, H0, en, o, ow, oa, S, h⟩ => or_of S h
theorem pw_weak {t t' : TT} (h : PW X a t) (w : ∀ σ H Q, t' σ H Q → t σ H Q) : PW X a t' := ⟨fun wh pins s σ H Q I q => h.run wh pins s σ H Q I (w σ H Q q)⟩
theorem w_and (ha : PT X a (tT T G W ea)) (hb : PW X (.BoolOp .And (b :: rest) pos) (tT T G W eb)) : PW X (.BoolOp .And (a :: b :: rest) pos) (tT T G W (.and ea eb)) :=
  pw_weak (pw_and ha hb) fun σ H Q ⟨B, H0, en, o, ow, oa, S, h⟩ => tT_mono (and_of S h) fun c H1 q => by
    cases c with
    | true => exact q
    | false =>
      obtain ⟨k, e, q⟩ := (show ∃ k, V.bl false = .bl k ∧ Q k H1 from q)
      cases e
      exact q
theorem w_or (ha : PT X a (tT T G W ea)) (hb : PW X (.BoolOp .Or (b :: rest) pos) (tT T G W eb)) : PW X (.BoolOp .Or (a :: b :: rest) pos) (tT T G W (.or ea eb)) :=
  pw_weak (pw_or ha hb) fun σ H Q ⟨B, H0, en, o, ow, oa, S, h⟩ => tT_mono (or_of S h) fun c H1 q => by
    cases c with
    | false => exact q
    | true =>
      obtain ⟨k, e, q⟩ := (show ∃ k, V.bl true = .bl k ∧ Q k H1 from q)
      cases e
      exact q
theorem not_of_ (S : SR T B H0 en o σ H ow oa) (h : Good T B ow W σ oa H ((E.not ea).ev G en o) Q) : tT T G W ea σ H fun c H1 => Q (.bl (!c)) H1 :=
  test_of (f := fun x o => match x.d with
    | .bl b => .ok ⟨.bl (!b), .fz⟩ o
    | _ => .bad) (g := fun b o => .ok ⟨.bl (!b), .fz⟩ o) S h (fun b k o => rfl) (fun r o => not_bad1) fun b o1 H1 oa1 S1 h1 => h1 _ _ oa1 (.refl S1.obs) (.bl _)
theorem e_not (ha : PE X a (tE T G W ea)) : PE X (.UnaryOp .Not a pos) (tE T G W (.not ea)) :=
  pe_weak (pe_not ha) fun σ H Q ⟨B, H0, en, o, ow, oa, S, h⟩ => not_of_ S h
theorem t_not (ha : PT X a (tT T G W ea)) : PT X (.UnaryOp .Not a pos) (tT T G W (.not ea)) :=
  pt_weak (pt_not ha) fun σ H Q ⟨B, H0, en, o, ow, oa, S, h⟩ => tT_mono (not_of_ S h) fun c H1 q => by
    obtain ⟨k, e, q⟩ := q
    cases e
    exact q
theorem e_ife (hc : PT X c (tT T G W ec)) (ha : PE X a (tE T G W ea)) (hb : PE X b (tE T G W eb)) : PE X (.IfExp c a b pos) (tE T G W (.ife ec ea eb)) :=
  pe_weak (pe_ifExp hc ha hb) fun σ H Q ⟨B, H0, en, o, ow, oa, S, h⟩ => test_of (f := fun x o => match x.d with
    | .bl true => ea.ev G en o
    | .bl false => eb.ev G en o
    | _ => .bad) (g := fun b o => if b then ea.ev G en o else eb.ev G en o) S h (fun b k o => by cases b <;> rfl) (fun r o => not_bad) fun b o1 H1 oa1 S1 h1 => by
    cases b with
    | true => exact iteT ⟨B, H0, en, o1, ow, oa1, S1, h1⟩
    | false => exact iteF ⟨B, H0, en, o1, ow, oa1, S1, h1⟩
end
end B
end

section
set_option Elab.async false
set_option linter.all false
set_option maxRecDepth 100000
set_option maxHeartbeats 1000000
/-! BI: lists of arguments; displays; built-ins; methods; subscripts. -/
namespace B
open PySem PySem.Spec PyProof.Rows L2
/-- results in a row; xs: the fresh ones' addresses -/
inductive RRs (T : Stat) (H' : Hp) (bk : Addr → Prop) (oa' : List Addr) : List R → List V → List Addr → Prop
  | nil : RRs T H' bk oa' [] [] []
  | al {r : R} {v : V} {rs vs xs} : r.k = .al → RepT T H' bk oa' v r.d → RRs T H' bk oa' rs vs xs → RRs T H' bk oa' (r :: rs) (v :: vs) xs
  | fz {r : R} {v : V} {rs vs xs} : r.k = .fz → Rep T H' bk oa' v r.d → RRs T H' bk oa' rs vs xs → RRs T H' bk oa' (r :: rs) (v :: vs) xs
  | ex {r : R} {p : Addr} {rs vs xs} : r.k = .ex → Fresh T H' bk oa' p r.d → RRs T H' bk oa' rs vs xs → RRs T H' bk oa' (r :: rs) (.ref p :: vs) (p :: xs)
def bkX (bk : Addr → Prop) (xs : List Addr) : Addr → Prop := fun b => bk b ∨ b ∈ xs
def GoodL (T : Stat) (B : Addr → Prop) (ow : Nat → Option Addr) (W : WX) (σ : St) (oa : List Addr) (H : Hp) (x : Rs (List R)) (Q : List V → Hp → Prop) : Prop := match x with
  | .ok rs o' => ∀ vs H' oa' xs, Ext T B ow oa o' H H' oa' → RRs T H' (bkX (bkS B ow oa') xs) oa' rs vs xs → xs.Nodup → (∀ p ∈ xs, H p = none ∧ p ∉ oa') → Obs T H' (bkX (bkS B ow oa') xs) oa' o' → Q vs H'
  | .exc c o' => ∀ H' oa', Ext T B ow oa o' H H' oa' → W (T.ex c) none σ H'
  | .bad => False
def tL (T : Stat) (G : Sg) (W : WX) (es : Es) : TA := fun σ H Q => ∃ B H0 en o ow oa, SR T B H0 en o σ H ow oa ∧ GoodL T B ow W σ oa H (es.ev G en o) Q
section
variable {T : Stat} {G : Sg} {W : WX} {X : Cx} {B : Addr → Prop} {H0 H H1 H2 H' : Hp} {en : Env} {o o1 o2 o' : Objs} {σ : St} {ow : Nat → Option Addr} {oa oa1 oa2 oa' : List Addr} {bk bk' : Addr → Prop} {r : R} {v : V} {Q : VK}
theorem GoodL.mono {x : Rs (List R)} {Q : List V → Hp → Prop} (h : GoodL T B ow W σ oa H x Q) (O : Obs T H bk oa o) (E1 : Ext T B ow oa o1 H H1 oa1) : GoodL T B ow W σ oa1 H1 x Q := by
  cases x with
  | ok r o' => exact fun v H' oa' xs E2 R2 n f O2 => h v H' oa' xs (E1.trans O E2) R2 n (fun p hp => ⟨E1.non O (f p hp).1, (f p hp).2⟩) O2
  | exc c o' => exact fun H' oa' E2 => h H' oa' (E1.trans O E2)
  | bad => exact h
theorem Fresh.step {d : D} {p : Addr} (h : Fresh T H bk oa p d) (k : ∀ b u, H b = some u → ((bk b ∨ b = p) → mutO u = false) → H' b = some u) (hp : ∀ u, H p = some u → H' p = some u) (kb : ∀ b, bk' b → bk b ∨ b = p ∨ H b = none) (po : ∀ (n : Nat) a, oa[n]? = some a → oa'[n]? = some a) : Fresh T H' bk' oa' p d := by
  unfold Fresh at h ⊢
  cases d with
  | lst xs =>
    obtain ⟨vs, h1, h2⟩ := h
    exact ⟨vs, hp _ h1, Reps.step k (fun b z => z.elim (fun z => (kb b z).elim (fun z => .inl (.inl z)) fun z => z.elim (fun z => .inl (.inr z)) .inr) fun z => .inl (.inr z)) po _ _ h2⟩
  | dct kvs => exact ⟨hp _ h.1, h.2⟩
  | _ => exact h
theorem Fresh.mut {d : D} {p : Addr} (h : Fresh T H bk oa p d) : ∃ u, H p = some u ∧ mutO u = true := by
  unfold Fresh at h
  cases d with
  | lst xs => obtain ⟨vs, h1, _⟩ := h; exact ⟨_, h1, rfl⟩
  | dct kvs => exact ⟨_, h.1, rfl⟩
  | _ => exact h.elim
theorem RRs.step : ∀ {rs : List R} {vs : List V} {xs : List Addr}, RRs T H bk oa rs vs xs → (∀ b u, H b = some u → (bk b → mutO u = false) → H' b = some u) → (∀ b, bk' b → bk b ∨ H b = none) → (∀ (n : Nat) a, oa[n]? = some a → oa'[n]? = some a) →
    (∀ b u, H b = some u → b ∉ oa → H' b = some u) → (∀ p ∈ xs, p ∉ oa) → (∀ p, p ∈ oa → bk p ∧ ∃ dx ws, H p = some (.ins T.dcl dx ws)) → RRs T H' bk' oa' rs vs xs
  | _, _, _, .nil, _, _, _, _, _, _ => .nil
  | _, _, _, .al (r := r) hk hr t, k, kb, po, q, nx, io => by
    refine .al hk ?_ (t.step k kb po q nx io)
    have nins : ∀ {a : Addr} {u : HO}, H a = some u → (∀ C dx ws, u ≠ .ins C dx ws) → a ∉ oa := fun {a u} e nu z => by
      obtain ⟨_, dx, ws, e2⟩ := io a z
      rw [e] at e2
      cases e2
      exact nu _ _ _ rfl
    cases hd : r.d <;> rw [hd] at hr
    case lst ys =>
      obtain ⟨a, ws, rfl, h1, h2⟩ := hr
      exact ⟨a, ws, rfl, q _ _ h1 (nins h1 fun _ _ _ => by simp), Reps.step k kb po _ _ h2⟩
    case dct kvs =>
      obtain ⟨a, rfl, h1, h2⟩ := hr
      exact ⟨a, rfl, q _ _ h1 (nins h1 fun _ _ _ => by simp), h2⟩
    all_goals exact Rep.step k kb po _ _ hr
  | _, _, _, .fz hk hr t, k, kb, po, q, nx, io => .fz hk (Rep.step k kb po _ _ hr) (t.step k kb po q nx io)
  | _, _, _, .ex (p := p) hk hf t, k, kb, po, q, nx, io =>
    .ex hk (hf.step (fun b u e h => by
      by_cases hb : b ∈ oa
      · obtain ⟨_, dx, ws, e2⟩ := io b hb
        rw [e] at e2
        cases e2
        exact absurd (h (.inl (io b hb).1)) (by simp [mutO])
      · exact q b u e hb) (fun u e => q _ _ e (nx _ List.mem_cons_self)) (fun b z => (kb b z).elim .inl fun z => .inr (.inr z)) po) (t.step k kb po q (fun p hp => nx p (List.mem_cons_of_mem _ hp)) io)
/-- a fresh value is set aside -/
theorem SR.aside (S : SR T B H0 en o σ H ow oa) (E1 : Ext T B ow oa o1 H H1 oa1) {p : Addr} (hp : H p = none) (hu : ∃ u, H1 p = some u ∧ mutO u = true) (np : p ∉ oa1) (O : Obs T H1 (fun b => bkS B ow oa1 b ∨ b = p) oa1 o1) :
    SR T (fun b => B b ∨ b = p) H0 en o1 σ H1 ow oa1 := by
  have S1 := S.ext E1
  have kb : ∀ b, bkS (fun b => B b ∨ b = p) ow oa1 b → bkS B ow oa b ∨ H b = none := fun b z => by
    rcases z with (z | z) | z | z
    · exact .inl (.inl z)
    · exact .inr (by rw [z]; exact hp)
    · exact .inl (.inr (.inl z))
    · exact (E1.new b z).elim (fun z => .inl (.inr (.inr z))) .inr
  have kk := E1.kp S.obs fun b z => (.inr (.inr z) : bkS B ow oa b)
  refine ⟨S1.len, fun b z => z.elim (S1.amb b) fun z => by rw [z]; exact ⟨hu, np⟩, S1.kept, O.weak fun b z => ?_, fun i r e => ?_, fun i xs e => ?_, S1.ownd, fun i q e => ?_, S1.inj, S1.alt⟩
  · rcases z with (z | z) | z | z
    · exact .inl (.inl z)
    · exact .inr z
    · exact .inl (.inr (.inl z))
    · exact .inl (.inr (.inr z))
  · obtain ⟨v, h1, h2, h3⟩ := S.val i r e
    refine ⟨v, h1, ?_, fun z => Rep.step kk kb E1.pre _ _ (h3 z)⟩
    cases hd : r.d <;> rw [hd] at h2
    case lst ys =>
      obtain ⟨a, ws, rfl, h4, h5⟩ := h2
      exact ⟨a, ws, rfl, at_ext E1 S.obs h4 (fun _ _ _ => by simp), Reps.step kk kb E1.pre _ _ h5⟩
    case dct kvs =>
      obtain ⟨a, rfl, h4, h5⟩ := h2
      exact ⟨a, rfl, at_ext E1 S.obs h4 (fun _ _ _ => by simp), h5⟩
    all_goals exact Rep.step kk kb E1.pre _ _ h2
  · obtain ⟨q, vs, h1, h2, h3, h4⟩ := S.own i xs e
    exact ⟨q, vs, h1, h2, E1.keep _ _ h3 (S.ows i q h1).2.2.1, Reps.step kk kb E1.pre _ _ h4⟩
  · obtain ⟨h1, h2, h3, h4, h5⟩ := S1.ows i q e
    refine ⟨h1, fun z => z.elim h2 fun z => ?_, h3, h4, h5⟩
    exact S.owt i q e (by rw [z]; exact hp)
theorem RepR.rep_al (h : RepR T B ow oa' o' H H' r v) (hk : r.k = .al) : RepT T H' (bkS B ow oa') oa' v r.d := by
  unfold RepR at h
  rw [hk] at h
  exact h
theorem RepR.rep_fz (h : RepR T B ow oa' o' H H' r v) (hk : r.k = .fz) : Rep T H' (bkS B ow oa') oa' v r.d := by
  unfold RepR at h
  rw [hk] at h
  exact h
theorem RepR.rep_ex (h : RepR T B ow oa' o' H H' r v) (hk : r.k = .ex) : ∃ p, v = .ref p ∧ H p = none ∧ p ∉ oa' ∧ Fresh T H' (bkS B ow oa') oa' p r.d ∧ Obs T H' (fun b => bkS B ow oa' b ∨ b = p) oa' o' := by
  unfold RepR at h
  rw [hk] at h
  exact h
theorem l_nil : PA X [] (tL T G W .nil) := ⟨fun pos pins s σ H Q I h => pa_nil.run pos pins s σ H Q I (by
  obtain ⟨B, H0, en, o, ow, oa, S, h⟩ := h
  exact h [] H oa [] (.refl S.obs) .nil List.nodup_nil (fun _ z => absurd z List.not_mem_nil) (S.obs.weak fun b z => z.elim id fun z => absurd z List.not_mem_nil))⟩
theorem bkX_nil (b : Addr) (z : bkX bk [] b) : bk b := z.elim id fun z => absurd z List.not_mem_nil
theorem l_cons {e : Expr} {es : List Expr} {ie : E} {ies : Es} (ha : PE X e (tE T G W ie)) (hr : PA X es (tL T G W ies)) (hs : starEach (e :: es) X.env = (false, eval e X.env) :: starEach es X.env) : PA X (e :: es) (tL T G W (.cons ie ies)) :=
  ⟨fun pos pins s σ H Q I h => (pa_cons ha hr hs).run pos pins s σ H Q I (by
    obtain ⟨B, H0, en, o, ow, oa, S, h⟩ := h
    show tE T G W ie σ H fun x H1 => tL T G W ies σ H1 fun xs H2 => Q (x :: xs) H2
    refine ⟨B, H0, en, o, ow, oa, S, ?_⟩
    have h' : GoodL T B ow W σ oa H ((ie.ev G en o).bind fun x o => (ies.ev G en o).bind fun xs o => .ok (x :: xs) o) Q := h
    cases he : ie.ev G en o with
    | bad => rw [he] at h'; exact h'.elim
    | exc c o1 => rw [he] at h'; exact h'
    | ok r o1 =>
      rw [he] at h'
      intro v H1 oa1 E1 R1
      have S1 := S.ext E1
      have h2 : GoodL T B ow W σ oa H ((ies.ev G en o1).bind fun xs o => .ok (r :: xs) o) Q := h'
      cases hk : r.k with
      | al =>
        have R1 := R1.rep_al hk
        refine ⟨B, H0, en, o1, ow, oa1, S1, ?_⟩
        cases hes : ies.ev G en o1 with
        | bad => rw [hes] at h2; exact h2.elim
        | exc c o2 => rw [hes] at h2; exact fun H' oa' E2 => h2 H' oa' (E1.trans S.obs E2)
        | ok rs o2 =>
          rw [hes] at h2
          intro vs H2 oa2 xs E2 RR n f O
          refine h2 (v :: vs) H2 oa2 xs (E1.trans S.obs E2) (.al hk ?_ RR) n (fun p hp => ⟨E1.non S.obs (f p hp).1, (f p hp).2⟩) O
          have kb : ∀ b, bkX (bkS B ow oa2) xs b → bkS B ow oa1 b ∨ H1 b = none := fun b z => z.elim (E2.blk b) fun z => .inr (f b z).1
          have kk := E2.kp S1.obs fun b z => (.inr (.inr z) : bkS B ow oa1 b)
          cases hd : r.d <;> rw [hd] at R1
          case lst ys =>
            obtain ⟨a, ws, rfl, h4, h5⟩ := R1
            exact ⟨a, ws, rfl, at_ext E2 S1.obs h4 (fun _ _ _ => by simp), Reps.step kk kb E2.pre _ _ h5⟩
          case dct kvs =>
            obtain ⟨a, rfl, h4, h5⟩ := R1
            exact ⟨a, rfl, at_ext E2 S1.obs h4 (fun _ _ _ => by simp), h5⟩
          all_goals exact Rep.step kk kb E2.pre _ _ R1
      | fz =>
        have R1 := R1.rep_fz hk
        refine ⟨B, H0, en, o1, ow, oa1, S1, ?_⟩
        cases hes : ies.ev G en o1 with
        | bad => rw [hes] at h2; exact h2.elim
        | exc c o2 => rw [hes] at h2; exact fun H' oa' E2 => h2 H' oa' (E1.trans S.obs E2)
        | ok rs o2 =>
          rw [hes] at h2
          intro vs H2 oa2 xs E2 RR n f O
          refine h2 (v :: vs) H2 oa2 xs (E1.trans S.obs E2) (.fz hk ?_ RR) n (fun p hp => ⟨E1.non S.obs (f p hp).1, (f p hp).2⟩) O
          exact Rep.step (E2.kp S1.obs fun b z => (.inr (.inr z) : bkS B ow oa1 b)) (fun b z => z.elim (E2.blk b) fun z => .inr (f b z).1) E2.pre _ _ R1
      | ex =>
        obtain ⟨p, rfl, hp, np, F1, O1⟩ := R1.rep_ex hk
        have S2 := S.aside E1 hp F1.mut np O1
        refine ⟨fun b => B b ∨ b = p, H0, en, o1, ow, oa1, S2, ?_⟩
        have cv : ∀ {oa2 : List Addr} (b : Addr), bkS B ow oa2 b → bkS (fun b => B b ∨ b = p) ow oa2 b := fun {oa2} b z => by
          rcases z with z | z | z
          · exact .inl (.inl z)
          · exact .inr (.inl z)
          · exact .inr (.inr z)
        have cv2 : ∀ {oa2 : List Addr} (b : Addr), bkS (fun b => B b ∨ b = p) ow oa2 b → bkS B ow oa2 b ∨ b = p := fun {oa2} b z => by
          rcases z with (z | z) | z | z
          · exact .inl (.inl z)
          · exact .inr z
          · exact .inl (.inr (.inl z))
          · exact .inl (.inr (.inr z))
        have toE : ∀ {H2 : Hp} {oa2 : List Addr} {o2 : Objs}, Ext T (fun b => B b ∨ b = p) ow oa1 o2 H1 H2 oa2 → Ext T B ow oa1 o2 H1 H2 oa2 := fun {H2 oa2 o2} E2 => ⟨E2.keep, E2.pre, E2.new, E2.obs.weak cv⟩
        cases hes : ies.ev G en o1 with
        | bad => rw [hes] at h2; exact h2.elim
        | exc c o2 => rw [hes] at h2; exact fun H' oa' E2 => h2 H' oa' (E1.trans S.obs (toE E2))
        | ok rs o2 =>
          rw [hes] at h2
          intro vs H2 oa2 xs E2 RR n f O
          have hp1 : H1 p ≠ none := by
            obtain ⟨u, e, _⟩ := F1.mut
            rw [e]; simp
          have pnx : p ∉ xs := fun z => hp1 (f p z).1
          have np2 : p ∉ oa2 := fun z => (E2.new p z).elim np hp1
          have bke : ∀ b, bkX (bkS B ow oa2) (p :: xs) b → bkX (bkS (fun b => B b ∨ b = p) ow oa2) xs b := fun b z => by
            rcases z with z | z
            · exact .inl (cv b z)
            · rcases List.mem_cons.mp z with z | z
              · exact .inl (.inl (.inr z))
              · exact .inr z
          refine h2 (.ref p :: vs) H2 oa2 (p :: xs) (E1.trans S.obs (toE E2)) (.ex hk ?_ ?_) (List.nodup_cons.mpr ⟨pnx, n⟩) (fun q hq => ?_) (O.weak bke)
          · refine F1.step (fun b u e h => ?_) (fun u e => E2.keep _ _ e np) (fun b z => ?_) E2.pre
            · by_cases hb : b ∈ oa1
              · obtain ⟨dx, ws, q⟩ := S1.obs.ins hb
                rw [q] at e
                cases e
                exact absurd (h (.inl (.inr (.inr hb)))) (by simp [mutO])
              · exact E2.keep b u e hb
            · rcases z with z | z
              · exact ((toE E2).blk b z).elim .inl fun z => .inr (.inr z)
              · rcases List.mem_cons.mp z with z | z
                · exact .inr (.inl z)
                · exact .inr (.inr (f b z).1)
          · refine RR.step (fun b u e _ => e) (fun b z => .inl (bke b z)) (fun _ _ e => e) (fun b u e _ => e) (fun q hq => (f q hq).2) fun q hq => ⟨.inl (.inr (.inr hq)), E2.obs.ins hq⟩
          · rcases List.mem_cons.mp hq with rfl | hq
            · exact ⟨hp, np2⟩
            · exact ⟨E1.non S.obs (f q hq).1, (f q hq).2⟩)⟩
end
end B
end

section
set_option Elab.async false
set_option linter.all false
set_option maxRecDepth 100000
set_option maxHeartbeats 1000000
/-! BJ: displays, calls, built-ins, methods, subscripts, slices. -/
namespace B
open PySem PySem.Spec PyProof.Rows L2
section
variable {T : Stat} {G : Sg} {W : WX} {X : Cx} {B : Addr → Prop} {H0 H H1 H2 H' : Hp} {en : Env} {o o1 o2 o' : Objs} {σ : St} {ow : Nat → Option Addr} {oa oa1 oa2 oa' : List Addr} {bk bk' : Addr → Prop} {r : R} {v : V} {Q : VK}
theorem RRs.fzs : ∀ {rs : List R} {vs : List V} {xs : List Addr} {ys : List Addr}, RRs T H' (bkX bk ys) oa' rs vs xs → (∀ r ∈ rs, r.k ≠ .al) → (∀ p ∈ xs, ¬ bk p) → Reps T H' bk oa' vs (rs.map (·.d))
  | _, _, _, _, .nil, _, _ => .nil
  | _, _, _, _, .al hk hr t, h, _ => absurd hk (h _ List.mem_cons_self)
  | _, _, _, _, .fz hk hr t, h, n => .cons (Rep.step (fun _ _ e _ => e) (fun b z => .inl (.inl z)) (fun _ _ e => e) _ _ hr) (t.fzs (fun r hr => h r (List.mem_cons_of_mem _ hr)) n)
  | _, _, _, _, .ex (r := r) (p := p) hk hf t, h, n => by
    refine .cons ?_ (t.fzs (fun r hr => h r (List.mem_cons_of_mem _ hr)) fun q hq => n q (List.mem_cons_of_mem _ hq))
    have np := n p List.mem_cons_self
    unfold Fresh at hf
    show Rep T H' bk oa' (.ref p) r.d
    cases hd : r.d <;> rw [hd] at hf
    case lst ys =>
      obtain ⟨ws, h1, h2⟩ := hf
      exact .lst h1 np (Reps.step (fun _ _ e _ => e) (fun b z => .inl (.inl (.inl z))) (fun _ _ e => e) _ _ h2)
    case dct kvs => exact .dct hf.1 np hf.2
    all_goals exact hf.elim
theorem RRs.tops : ∀ {rs : List R} {vs : List V} {xs : List Addr} {ys : List Addr}, RRs T H' (bkX bk ys) oa' rs vs xs → RepTs T H' bk oa' vs (rs.map (·.d))
  | _, _, _, _, .nil => .nil
  | _, _, _, _, .al (r := r) hk hr t => by
    refine .cons ?_ t.tops
    show RepT T H' bk oa' _ r.d
    cases hd : r.d <;> rw [hd] at hr
    case lst ys =>
      obtain ⟨a, ws, rfl, h1, h2⟩ := hr
      exact ⟨a, ws, rfl, h1, Reps.step (fun _ _ e _ => e) (fun b z => .inl (.inl z)) (fun _ _ e => e) _ _ h2⟩
    case dct kvs => exact hr
    all_goals exact Rep.step (fun _ _ e _ => e) (fun b z => .inl (.inl z)) (fun _ _ e => e) _ _ hr
  | _, _, _, _, .fz hk hr t => .cons (Rep.top (Rep.step (fun _ _ e _ => e) (fun b z => .inl (.inl z)) (fun _ _ e => e) _ _ hr)) t.tops
  | _, _, _, _, .ex (r := r) (p := p) hk hf t => by
    refine .cons ?_ t.tops
    unfold Fresh at hf
    show RepT T H' bk oa' _ r.d
    cases hd : r.d <;> rw [hd] at hf
    case lst ys =>
      obtain ⟨ws, h1, h2⟩ := hf
      exact ⟨p, ws, rfl, h1, Reps.step (fun _ _ e _ => e) (fun b z => .inl (.inl (.inl z))) (fun _ _ e => e) _ _ h2⟩
    case dct kvs => exact ⟨p, rfl, hf.1, hf.2⟩
    all_goals exact hf.elim
/-- a list of arguments, then the rest -/
theorem good_l {es : Es} {f : List R → Objs → Rs R} {Rk : List V → Hp → Prop} (S : SR T B H0 en o σ H ow oa) (h : Good T B ow W σ oa H ((es.ev G en o).bind f) Q)
    (k : ∀ rs o1 vs H1 oa1 xs, RRs T H1 (bkX (bkS B ow oa1) xs) oa1 rs vs xs → (∀ p ∈ xs, ¬ bkS B ow oa1 p) → SR T B H0 en o1 σ H1 ow oa1 → Good T B ow W σ oa1 H1 (f rs o1) Q → Rk vs H1) : tL T G W es σ H Rk := by
  refine ⟨B, H0, en, o, ow, oa, S, ?_⟩
  cases he : es.ev G en o with
  | ok rs o1 =>
    rw [he] at h
    refine fun vs H1 oa1 xs E1 R1 n f O => k rs o1 vs H1 oa1 xs R1 (fun p hp z => ?_) (S.ext E1) (Good.mono h S.obs E1)
    obtain ⟨f1, f2⟩ := f p hp
    rcases z with z | ⟨i, z⟩ | z
    · exact S.Bt p z f1
    · exact S.owt i p z f1
    · exact f2 z
  | exc c o1 => rw [he] at h; exact h
  | bad => rw [he] at h; exact h
theorem kd_all {rs : List R} (h : (rs.all fun x => decide (x.k ≠ .al)) = true) : ∀ r ∈ rs, r.k ≠ .al := fun r hr => by
  have := List.all_eq_true.mp h r hr
  simpa using this
variable {a b c : Expr} {es : List Expr} {ea eb ec : E} {ies : Es} {pos : Pos}
theorem Good.ite {p : Bool} {x : Rs R} (h : Good T B ow W σ oa H (if p = true then x else .bad) Q) : p = true ∧ Good T B ow W σ oa H x Q := by
  cases p with
  | true => exact ⟨rfl, h⟩
  | false => exact h.elim
theorem e_lst (ha : PA X es (tL T G W ies)) : PE X (.List es pos) (tE T G W (.lst ies)) :=
  pe_weak (pe_lst ha) fun σ H Q ⟨B, H0, en, o, ow, oa, S, h⟩ => good_l S (f := fun (xs : List R) o => if ((xs.all fun x => decide (x.k ≠ .al)) && decide (xs.length ≤ bigL)) = true then .ok ⟨.lst (xs.map fun z : R => z.d), .ex⟩ o else .bad) h fun rs o1 vs H1 oa1 xs R1 n S1 h1 => by
    obtain ⟨c, h2⟩ := h1.ite
    simp only [Bool.and_eq_true, decide_eq_true_eq] at c
    have rr := R1.fzs (kd_all c.1) n
    have e := rr.len
    rw [List.length_map] at e
    exact ⟨by rw [e]; exact Nat.le_trans c.2 (by decide), fun p hp => (prim_new rr hp).good S1 h2⟩
theorem e_tup {k} (ha : PA X es (tL T G W ies)) : PE X (.Tuple es k pos) (tE T G W (.tup ies)) :=
  pe_weak (pe_tup ha) fun σ H Q ⟨B, H0, en, o, ow, oa, S, h⟩ => good_l S (f := fun (xs : List R) o => if ((xs.all fun x => decide (x.k ≠ .al)) && decide (xs.length ≤ bigL)) = true then .ok ⟨.tup (xs.map fun z : R => z.d), .fz⟩ o else .bad) h fun rs o1 vs H1 oa1 xs R1 n S1 h1 => by
    obtain ⟨c, h2⟩ := h1.ite
    simp only [Bool.and_eq_true, decide_eq_true_eq] at c
    have rr := R1.fzs (kd_all c.1) n
    have e := rr.len
    rw [List.length_map] at e
    exact ⟨by rw [e]; exact Nat.le_trans c.2 (by decide), fun p hp => Prim.good (r := ⟨.tup (rs.map (·.d)), .fz⟩) S1 (.inr ⟨p, _, _, rfl, rfl, hp, rfl, rr⟩) h2⟩
/-! ### built-ins by name -/
theorem e_bi {f : Value} {bi : Bi} {x : Str} {p : Pos} (hc : CallR X f (rL T bi.ev)) (hb : ∀ {r t}, CallR X f r → PA X (a :: es) t → PE X (.Call (.Name x p) (a :: es) [] pos) (tCB r t)) (ha : PA X (a :: es) (tL T G W ies)) : PE X (.Call (.Name x p) (a :: es) [] pos) (tE T G W (.bi bi ies)) :=
  pe_weak (hb hc ha) fun σ H Q ⟨B, H0, en, o, ow, oa, S, h⟩ => good_l S (f := fun (xs : List R) o => ofO o (bi.ev (xs.map fun z : R => z.d))) h fun rs o1 vs H1 oa1 xs R1 n S1 h1 => by
    obtain ⟨r, e, h2⟩ := h1.ofO
    exact ⟨bkS B ow oa1, oa1, _, r, R1.tops, e, fun v H' P => P.good S1 h2⟩
/-! ### methods of built-in types -/
theorem e_mt {ty : String} {m : Mt} (mm : PE X c (tBM X.K ty (rM T m) (tE T G W ea) (tL T G W ies))) (hty : ∀ H bk oa x dx, RepT T H bk oa x dx → m.rcv dx = true → tyV X.K ty x H) : PE X c (tE T G W (.mt m ea ies)) :=
  pe_weak mm fun σ H Q ⟨B, H0, en, o, ow, oa, S, h⟩ => by
    have h' : Good T B ow W σ oa H ((ea.ev G en o).bind fun x o => if m.rcv x.d = true then (ies.ev G en o).bind fun xs o => ofO o (m.ev x.d (xs.map fun z : R => z.d)) else .bad) Q := h
    refine good_a S h' fun r1 o1 x H1 oa1 E1 R1 S1 h1 => ?_
    obtain ⟨c, h2⟩ := h1.ite
    refine ⟨hty _ _ _ _ _ (R1.top S1) c, ?_⟩
    -- the receiver's value stays
    refine ⟨B, H0, en, o1, ow, oa1, S1, ?_⟩
    cases he : ies.ev G en o1 with
    | bad => rw [he] at h2; exact h2.elim
    | exc c o2 => rw [he] at h2; exact h2
    | ok rs o2 =>
      rw [he] at h2
      intro vs H2 oa2 xs E2 R2 n f O
      have S2 := S1.ext E2
      obtain ⟨r, e, h3⟩ := (Good.mono (x := ofO o2 (m.ev r1.d (rs.map (·.d)))) h2 S1.obs E2).ofO
      exact ⟨bkS B ow oa2, oa2, r1.d, _, r, E2.repT S1.obs (R1.top S1), R2.tops, e, fun v H' P => P.good S2 h3⟩
theorem rcv_str (hK : T.K = X.K) {m : Mt} (hm : ∀ d, m.rcv d = true → ∃ t, d = .str t) : ∀ H bk oa x dx, RepT T H bk oa x dx → m.rcv dx = true → tyV X.K "str" x H := fun H bk oa x dx h e => by
  obtain ⟨t, rfl⟩ := hm dx e
  obtain ⟨rfl, _⟩ := h.str_
  rfl
theorem rcv_lst (hK : T.K = X.K) {m : Mt} (hm : ∀ d, m.rcv d = true → ∃ t, d = .lst t) : ∀ H bk oa x dx, RepT T H bk oa x dx → m.rcv dx = true → tyV X.K "list" x H := fun H bk oa x dx h e => by
  obtain ⟨t, rfl⟩ := hm dx e
  obtain ⟨a, vs, rfl, h1, _⟩ := h.lst_
  exact .inl ⟨rfl, vs, .of h1⟩
/-! ### subscripts -/
theorem ixr_ (hK : T.K = X.K) : IxR X (rV T idxEv) := fun value slice pins s σ H x y v u Q I rx ry ⟨bk, oa, dx, dy, r, hx, hy, e, q⟩ hs => by
  match dx, dy, e, hx, hy with
  | .lst xs, .int i, e, hx, hy =>
    obtain ⟨d, e0, rfl⟩ := map_some (show (atI xs i).map (fun d => R.mk d .fz) = some r from e)
    obtain ⟨a, vs, rfl, h1, h2⟩ := hx.lst_
    obtain ⟨j, e1, e2⟩ := bind_some (show (ixN xs.length i).bind (fun j => xs[j]?) = some d from e0)
    obtain ⟨w, e3, rw'⟩ := h2.get e2
    exact ix_list value slice pins s σ H _ y v u Q I rx ry ⟨a, vs, i, w, rfl, hy.int_, .of h1, by show (ixN vs.length i).bind (fun j => vs[j]?) = some w; rw [h2.len, e1]; exact e3, q _ _ (prim_sc rw')⟩ hs
  | .scr xs, .int i, e, hx, hy =>
    obtain ⟨d, e0, rfl⟩ := map_some (show (atI xs i).map (fun d => R.mk (.int d) .fz) = some r from e)
    obtain ⟨a, rfl, h1⟩ := hx.scr_
    obtain ⟨j, e1, e2⟩ := bind_some (show (ixN xs.length i).bind (fun j => xs[j]?) = some d from e0)
    exact ix_list value slice pins s σ H _ y v u Q I rx ry ⟨a, _, i, .int d, rfl, hy.int_, hK ▸ h1, by show (ixN (xs.map V.int).length i).bind (fun j => (xs.map V.int)[j]?) = some (V.int d); rw [List.length_map, e1]; show (xs.map V.int)[j]? = _; rw [List.getElem?_map, e2]; rfl, q _ _ (prim_sc (.int _))⟩ hs
  | .tup xs, .int i, e, hx, hy =>
    obtain ⟨d, e0, rfl⟩ := map_some (show (atI xs i).map (fun d => R.mk d .fz) = some r from e)
    obtain ⟨a, vs, rfl, h1, h2⟩ := hx.tup_
    obtain ⟨j, e1, e2⟩ := bind_some (show (ixN xs.length i).bind (fun j => xs[j]?) = some d from e0)
    obtain ⟨w, e3, rw'⟩ := h2.get e2
    exact ix_tup value slice pins s σ H _ y v u Q I rx ry ⟨a, vs, i, w, rfl, hy.int_, hK ▸ h1, by show (ixN vs.length i).bind (fun j => vs[j]?) = some w; rw [h2.len, e1]; exact e3, q _ _ (prim_sc rw')⟩ hs
  | .str t, .int i, e, hx, hy =>
    have e' : (if t.length ≤ bigL then (atI t i).map fun c => R.mk (.str [c]) .fz else none) = some r := e
    rw [Option.ite_none_right_eq_some] at e'
    obtain ⟨c, e'⟩ := e'
    obtain ⟨d, e0, rfl⟩ := map_some e'
    obtain ⟨rfl, ok⟩ := hx.str_
    have m : d ∈ t := by
      obtain ⟨j, e1, e2⟩ := bind_some (show (ixN t.length i).bind (fun j => t[j]?) = some d from e0)
      exact List.mem_of_getElem? e2
    exact ix_str value slice pins s σ H _ y v u Q I rx ry ⟨tS t, i, d, rfl, hy.int_, by rw [tS_len]; exact Nat.le_trans c (by decide), by rw [tS_list]; exact e0, q _ _ (prim_sc (.str fun z hz => by rw [List.mem_singleton.mp hz]; exact ok d m))⟩ hs
theorem e_idx (hK : T.K = X.K) (ha : PE X a (tE T G W ea)) (hb : PE X b (tE T G W eb)) (hs : PlainIx b) : PE X (.Subscript a b pos) (tE T G W (.idx ea eb)) :=
  pe_weak (pe_ix (ixr_ hK) ha hb hs) fun σ H Q ⟨B, H0, en, o, ow, oa, S, h⟩ => bin_of S h
theorem valV_conv (kvs : List (DKey × Sc)) (k : DKey) : valV (kvs.map cKV) (cK k) = (dget kvs k).map cS := by
  unfold valV dget
  induction kvs with
  | nil => rfl
  | cons p r ih =>
    rw [List.map_cons, List.find?_cons, List.find?_cons]
    have e : decide ((cKV p).1 = cK k) = decide (p.1 = k) := by
      by_cases h : p.1 = k
      · rw [decide_eq_true h, decide_eq_true (show (cKV p).1 = cK k by rw [← h]; rfl)]
      · rw [decide_eq_false h, decide_eq_false (show ¬ (cKV p).1 = cK k from fun z => h (cK_inj z))]
    rw [e]
    cases decide (p.1 = k) with
    | true => rfl
    | false => exact ih
theorem dget_mem {kvs : List (DKey × Sc)} {k : DKey} {s : Sc} (h : dget kvs k = some s) : ∃ p ∈ kvs, p.2 = s := by
  obtain ⟨p, e, rfl⟩ := map_some h
  exact ⟨p, List.mem_of_find?_eq_some e, rfl⟩
theorem RepT.dct_ {x : V} {kvs : List (DKey × Sc)} (h : RepT T H bk oa x (.dct kvs)) : ∃ a, x = .ref a ∧ H a = some (.dK (kvs.map cKV)) ∧ ∀ p ∈ kvs, okK p.1 ∧ okS p.2 := h
theorem RepT.key {x : V} {d : D} {k : DKey} (h : RepT T H bk oa x d) (e : d.key = some k) : x = kV (cK k) ∧ okK k := by
  cases d <;> first | exact ⟨(Rep.key h e).1, (Rep.key h e).2.1⟩ | cases e
theorem e_didx (hu : X.A.units + 1 < cLine) (ha : PE X a (tE T G W ea)) (hb : PE X b (tE T G W eb)) (hs : NoSl b) : PE X (.Subscript a b pos) (tE T G W (.didx ea eb)) :=
  pe_weak (pe_dget hu ha hb hs) fun σ H Q ⟨B, H0, en, o, ow, oa, S, h⟩ => good_a S h fun r1 o1 x H1 oa1 E1 R1 S1 h1 => good_a S1 h1 fun r2 o2 y H2 oa2 E2 R2 S2 h2 => by
    obtain ⟨r, e, h3⟩ := h2.ofO
    have t1 := E2.repT S1.obs (R1.top S1)
    have t2 := R2.top S2
    cases hd : r1.d <;> rw [hd] at t1 e <;> first | cases e | skip
    rename_i kvs
    obtain ⟨a', rfl, q1, q2⟩ := t1.dct_
    obtain ⟨k, e1, e2⟩ := bind_some (show (r2.d.key.bind fun k => (dget kvs k).map fun v => R.mk v.d .fz) = some r from e)
    obtain ⟨s, e3, rfl⟩ := map_some e2
    obtain ⟨rfl, ok⟩ := t2.key e1
    obtain ⟨p, hp, rfl⟩ := dget_mem e3
    refine ⟨a', cS p.2, rfl, ?_, h3 _ _ oa2 (.refl S2.obs) (Rep.ofSc (q2 p hp).2)⟩
    have := DGet.k (k := cK k) q1
    rw [valV_conv, e3] at this
    exact this
end
end B
end

section
set_option Elab.async false
set_option linter.all false
set_option maxRecDepth 100000
set_option maxHeartbeats 1000000
/-! BK: slices, isinstance, calls. -/
namespace B
open PySem PySem.Spec PyProof.Rows L2
def GoodI (T : Stat) (B : Addr → Prop) (ow : Nat → Option Addr) (W : WX) (σ : St) (oa : List Addr) (H : Hp) (x : Rs (Option Int)) (Q : Option Int → Hp → Prop) : Prop := match x with
  | .ok i o' => ∀ H' oa', Ext T B ow oa o' H H' oa' → Q i H'
  | .exc c o' => ∀ H' oa', Ext T B ow oa o' H H' oa' → W (T.ex c) none σ H'
  | .bad => False
def tO (T : Stat) (G : Sg) (W : WX) (e : E) : TO := fun σ H Q => ∃ B H0 en o ow oa, SR T B H0 en o σ H ow oa ∧ GoodI T B ow W σ oa H (optI e.isHole (e.ev G en o) o) Q
section
variable {T : Stat} {G : Sg} {W : WX} {X : Cx} {B : Addr → Prop} {H0 H H1 H2 H' : Hp} {en : Env} {o o1 o2 o' : Objs} {σ : St} {ow : Nat → Option Addr} {oa oa1 oa2 oa' : List Addr} {bk bk' : Addr → Prop} {r : R} {v : V} {Q : VK}
variable {a b c : Expr} {es : List Expr} {ea eb ec : E} {ies : Es} {pos : Pos}
theorem po_weak {e : Option Expr} {t t' : TO} (h : PO X e t) (w : ∀ σ H Q, t' σ H Q → t σ H Q) : PO X e t' := ⟨fun pins s σ H Q I q => h.run pins s σ H Q I (w σ H Q q)⟩
theorem o_none : PO X none (tO T G W .hole) := po_weak po_none fun σ H Q ⟨B, H0, en, o, ow, oa, S, h⟩ => h H oa (.refl S.obs)
theorem o_some (ha : PE X a (tE T G W ea)) (hn : ea.isHole = false) : PO X (some a) (tO T G W ea) := po_weak (po_some ha) fun σ H Q ⟨B, H0, en, o, ow, oa, S, h⟩ => by
  rw [hn] at h
  refine ⟨B, H0, en, o, ow, oa, S, ?_⟩
  unfold optI at h
  rw [if_neg Bool.false_ne_true] at h
  cases he : ea.ev G en o with
  | bad => rw [he] at h; exact h
  | exc c o1 => rw [he] at h; exact h
  | ok r o1 =>
    rw [he] at h
    intro v H1 oa1 E1 R1
    have t := R1.top (S.ext E1)
    obtain ⟨d, k⟩ := r
    cases d with
    | int i => exact ⟨i, t.int_, h H1 oa1 E1⟩
    | _ => exact h.elim
theorem good_i {e : E} {f : Option Int → Objs → Rs R} {Rk : Option Int → Hp → Prop} (S : SR T B H0 en o σ H ow oa) (h : Good T B ow W σ oa H ((optI e.isHole (e.ev G en o) o).bind f) Q)
    (k : ∀ i o1 H1 oa1, Ext T B ow oa o1 H H1 oa1 → SR T B H0 en o1 σ H1 ow oa1 → Good T B ow W σ oa1 H1 (f i o1) Q → Rk i H1) : tO T G W e σ H Rk := by
  refine ⟨B, H0, en, o, ow, oa, S, ?_⟩
  cases he : optI e.isHole (e.ev G en o) o with
  | ok i o1 =>
    rw [he] at h
    exact fun H1 oa1 E1 => k i o1 H1 oa1 E1 (S.ext E1) (Good.mono h S.obs E1)
  | exc c o1 => rw [he] at h; exact h
  | bad => rw [he] at h; exact h
theorem cutV_eq (vs : List V) (lo hi : Option Int) : cutV vs lo hi = cut vs lo hi := rfl
theorem Reps.cut_ {vs : List V} {ds : List D} (r : Reps T H bk oa vs ds) (lo hi : Option Int) : Reps T H bk oa (cut vs lo hi) (cut ds lo hi) := by
  unfold cut
  rw [r.len]
  exact (r.drop _).take _
theorem okT_cut {t : Txt} (h : okT t) (lo hi : Option Int) : okT (cut t lo hi) := fun c hc => h c (List.mem_of_mem_drop (List.mem_of_mem_take hc))
theorem cut_map {α β : Type} (f : α → β) (l : List α) (lo hi : Option Int) : cut (l.map f) lo hi = (cut l lo hi).map f := by
  unfold cut
  rw [List.length_map, List.map_take, List.map_drop]
theorem cutS_eq (t : Txt) (lo hi : Option Int) : cutS (tS t) lo hi = tS (cut t lo hi) := by
  unfold cutS
  rw [tS_list, tS_len]
  rfl
theorem Reps.ints (xs : List Int) : Reps T H bk oa (xs.map V.int) (xs.map D.int) := by
  induction xs with
  | nil => exact .nil
  | cons x r ih => exact .cons (.int x) ih
def rSlD (T : Stat) : V → Option Int → Option Int → Hp → VK → Prop := fun x lo hi H Q => ∃ bk oa dx r, RepT T H bk oa x dx ∧ slEv dx lo hi = some r ∧ ∀ v H', Prim T bk oa H r v H' → Q v H'
theorem slr_ (hK : T.K = X.K) : L2.SlR X (rSlD T) := fun pins s σ H x v vl vu lo hi sl Q I rx hs pl pu ⟨bk, oa, dx, r, hx, e, q⟩ => by
  match dx, e, hx with
  | .lst xs, e, hx =>
    cases e
    obtain ⟨a, vs, rfl, h1, h2⟩ := hx.lst_
    exact sl_list pins s σ H _ v vl vu lo hi sl Q I rx hs pl pu ⟨a, vs, rfl, .of h1, fun p hp => q _ _ (prim_new (h2.cut_ lo hi) hp)⟩
  | .scr xs, e, hx =>
    cases e
    obtain ⟨a, rfl, h1⟩ := hx.scr_
    refine sl_list pins s σ H _ v vl vu lo hi sl Q I rx hs pl pu ⟨a, _, rfl, hK ▸ h1, fun p hp => ?_⟩
    rw [cutV_eq, cut_map]
    exact q _ _ (prim_new (Reps.ints _) hp)
  | .str t, e, hx =>
    have e' : (if t.length ≤ bigL then some (R.mk (.str (cut t lo hi)) .fz) else none) = some r := e
    rw [Option.ite_none_right_eq_some] at e'
    obtain ⟨c, e'⟩ := e'
    cases e'
    obtain ⟨rfl, ok⟩ := hx.str_
    refine sl_str pins s σ H _ v vl vu lo hi sl Q I rx hs pl pu ⟨_, rfl, by rw [tS_len]; exact Nat.le_trans c (by decide), ?_⟩
    rw [cutS_eq]
    exact q _ _ (prim_sc (.str (okT_cut ok lo hi)))
  | .tup xs, e, hx =>
    have e' : (if sIx xs.length 0 lo = 0 ∧ sIx xs.length xs.length hi = xs.length then none else some (R.mk (.tup (cut xs lo hi)) .fz)) = some r := e
    rw [Option.ite_none_left_eq_some] at e'
    obtain ⟨c, e'⟩ := e'
    cases e'
    obtain ⟨a, vs, rfl, h1, h2⟩ := hx.tup_
    exact sl_tup pins s σ H _ v vl vu lo hi sl Q I rx hs pl pu ⟨a, vs, rfl, hK ▸ h1, by rw [h2.len]; exact c, fun p hp => q _ _ (.inr ⟨p, _, _, rfl, rfl, hp, rfl, h2.cut_ lo hi⟩)⟩
theorem e_sl {lo hi : Option Expr} {el eh : E} {p2 : Pos} (hK : T.K = X.K) (ha : PE X a (tE T G W ea)) (hl : PO X lo (tO T G W el)) (hh : PO X hi (tO T G W eh)) : PE X (.Subscript a (.Slice lo hi none p2) pos) (tE T G W (.sl ea el eh)) :=
  pe_weak (pe_slice (slr_ hK) ha hl hh) fun σ H Q ⟨B, H0, en, o, ow, oa, S, h⟩ =>
    good_a S (f := fun x o => (optI el.isHole (el.ev G en o) o).bind fun l o => (optI eh.isHole (eh.ev G en o) o).bind fun h o => ofO o (slEv x.d l h)) h fun r1 o1 x H1 oa1 E1 R1 S1 h1 => good_i S1 h1 fun l o2 H2 oa2 E2 S2 h2 => good_i S2 h2 fun u o3 H3 oa3 E3 S3 h3 => by
      obtain ⟨r, e, h4⟩ := h3.ofO
      exact ⟨bkS B ow oa3, oa3, r1.d, r, E3.repT S2.obs (E2.repT S1.obs (R1.top S1)), e, fun v H' P => P.good S3 h4⟩
/-! ### isinstance of a built-in type -/
theorem RepT.ty (hK : T.K = X.K) {x : V} {d : D} {n : String} (h : RepT T H bk oa x d) (e : d.ty = some n) : TyX X.K H x (.type n) := by
  cases d with
  | lst xs =>
    cases e
    obtain ⟨a, vs, rfl, h1, _⟩ := h.lst_
    exact .base (.lst h1)
  | dct kvs =>
    cases e
    obtain ⟨a, rfl, h1, _⟩ := h.dct_
    exact .base (.dK h1)
  | tup xs =>
    cases e
    obtain ⟨a, vs, rfl, h1, _⟩ := h.tup_
    rcases h1 with (h1 | ⟨u, h1⟩) | ⟨ob, its, m, h1, h2, _⟩
    · exact .base (.tup h1)
    · exact .fTuple h1
    · exact .kTuple (hK ▸ h1) h2
  | scr xs =>
    cases e
    cases h with
    | scr h1 =>
      rcases h1 with ⟨u, h1⟩ | ⟨ob, its, m, h1, h2, _⟩
      · exact .base (.frz h1)
      · exact .kList (hK ▸ h1) h2
  | non => cases e; cases h; exact .base .non
  | bl => cases e; cases h; exact .base (.bl _)
  | int => cases e; cases h; exact .base (.int _)
  | str => cases e; cases h; exact .base (.str _)
  | ins => cases e
  | obj => cases e
  | fn => cases e
theorem kit_all : ∀ n ∈ ["NoneType", "bool", "int", "str", "tuple", "list", "dict"], ∀ t ∈ ["int", "str", "bool", "list", "tuple"], kitB n t = some (tyB n t) := by decide +kernel
theorem ty_mem {d : D} {n : String} (e : d.ty = some n) : n ∈ ["NoneType", "bool", "int", "str", "tuple", "list", "dict"] := by
  cases d <;> cases e <;> decide
theorem nm_mem {t : Ty} (h : ∀ c, t ≠ .cls c) : t.nm ∈ ["int", "str", "bool", "list", "tuple"] := by
  cases t <;> first | decide | exact absurd rfl (h _)
theorem e_isi {t : Ty} {x : Str} {p p2 : Pos} {y : Str} (hK : T.K = X.K) (ht : ∀ c, t ≠ .cls c) (ha : PE X a (tE T G W ea)) (hg : Gl X "isinstance") (hm : X.mg "isinstance" = none) (hv : bootBuiltins "isinstance" = some (.builtin "isinstance"))
    (hg2 : Gl X y) (hm2 : X.mg y = none) (hv2 : bootBuiltins y = some (.type t.nm)) (hn : y ≠ "__name__") (hd : (y == ("__debug__" : Str)) = false)
    (h1 : starEach [a, .Name y p2] X.env = (false, eval a X.env) :: starEach [.Name y p2] X.env) :
    PE X (.Call (.Name "isinstance" p) [a, .Name y p2] [] pos) (tE T G W (.isi ea t)) := by
  have e1 : PE X (.Name y p2) (tC (.ty t.nm)) := pe_bltn hg2 hm2 hv2 rfl hn hd
  refine pe_weak (pe_callB call_isi hg hm hv (pa_cons ha (pa_cons e1 pa_nil rfl) h1) (by decide) (by decide) h1 rfl) fun σ H Q ⟨B, H0, en, o, ow, oa, S, h⟩ => ?_
  refine good_a S (f := fun x o => ofO o ((t.has G.sub x.d).map fun b => ⟨.bl b, .fz⟩)) h fun r1 o1 x H1 oa1 E1 R1 S1 h1 => ?_
  obtain ⟨r, e0, h2⟩ := h1.ofO
  obtain ⟨b, e1, rfl⟩ := map_some e0
  have e2 : (r1.d.ty.map fun n => tyB n t.nm) = some b := by
    cases t <;> first | exact e1 | exact absurd rfl (ht _)
  obtain ⟨n, e3, rfl⟩ := map_some e2
  exact ⟨x, .ty t.nm, .type n, .type t.nm, _, rfl, .ty _, RepT.ty hK (R1.top S1) e3, kit_ty (kit_all n (ty_mem e3) t.nm (nm_mem ht)), h2 _ _ oa1 (.refl S1.obs) (.bl _)⟩
end
end B
end

section
set_option Elab.async false
set_option linter.all false
set_option maxRecDepth 100000
set_option maxHeartbeats 1000000
/-! BL: calls of defs. -/
namespace B
open PySem PySem.Spec PyProof.Rows L2
abbrev ow0 : Nat → Option Addr := fun _ => none
/-- arguments as they come to a def -/
abbrev ARs (T : Stat) (H : Hp) (bk : Addr → Prop) (oa : List Addr) : List V → List R → Prop := Paired fun v r => RepT T H bk oa v r.d ∧ (r.k ≠ .al → Rep T H bk oa v r.d)
/-- a def's promise: it hands back what F says -/
def spD (T : Stat) (F : List R → Objs → Rs R) (n : Nat) : Sp := fun vs H Q E => vs.length = n ∧ ∃ B rs o oa, (∀ b, B b → (∃ u, H b = some u ∧ mutO u = true) ∧ b ∉ oa) ∧ Obs T H (bkS B ow0 oa) oa o ∧ ARs T H (bkS B ow0 oa) oa vs rs ∧ match F rs o with
  | .ok r o' => ∀ v H' oa', Ext T B ow0 oa o' H H' oa' → RepR T B ow0 oa' o' H H' r v → Q v H'
  | .exc c o' => ∀ H' oa', Ext T B ow0 oa o' H H' oa' → E (T.ex c) none H'
  | .bad => False
section
variable {T : Stat} {G : Sg} {W : WX} {X : Cx} {B : Addr → Prop} {H0 H H1 H2 H' : Hp} {en : Env} {o o1 o2 o' : Objs} {σ : St} {ow : Nat → Option Addr} {oa oa1 oa2 oa' : List Addr} {bk bk' : Addr → Prop} {r : R} {v : V} {Q : VK}
variable {a b c : Expr} {es : List Expr} {ea eb ec : E} {ies : Es} {pos : Pos}
/-- what is blocked for a callee: the callers' own, and this def's -/
def Bc (B : Addr → Prop) (ow : Nat → Option Addr) : Addr → Prop := fun b => B b ∨ ∃ i, ow i = some b
theorem bc_iff {b : Addr} : bkS (Bc B ow) ow0 oa b ↔ bkS B ow oa b := by
  unfold bkS Bc ow0
  constructor
  · rintro ((z | z) | ⟨i, z⟩ | z)
    · exact .inl z
    · exact .inr (.inl z)
    · cases z
    · exact .inr (.inr z)
  · rintro (z | z | z)
    · exact .inl (.inl z)
    · exact .inl (.inr z)
    · exact .inr (.inr z)
theorem RepT.bkw {d : D} (h : RepT T H bk oa v d) (w : ∀ b, bk' b → bk b) : RepT T H bk' oa v d := by
  cases d with
  | lst xs =>
    obtain ⟨a, vs, rfl, h1, h2⟩ := h
    exact ⟨a, vs, rfl, h1, Reps.step (fun _ _ e _ => e) (fun b z => .inl (w b z)) (fun _ _ e => e) _ _ h2⟩
  | dct kvs => exact h
  | _ => exact Rep.step (fun _ _ e _ => e) (fun b z => .inl (w b z)) (fun _ _ e => e) _ _ h
theorem Rep.bkw {d : D} (h : Rep T H bk oa v d) (w : ∀ b, bk' b → bk b) : Rep T H bk' oa v d := Rep.step (fun _ _ e _ => e) (fun b z => .inl (w b z)) (fun _ _ e => e) _ _ h
theorem Fresh.bkw {d : D} {p : Addr} (h : Fresh T H bk oa p d) (w : ∀ b, bk' b → bk b) : Fresh T H bk' oa p d := h.step (fun _ _ e _ => e) (fun _ e => e) (fun b z => .inl (w b z)) (fun _ _ e => e)
theorem RRs.args : ∀ {rs : List R} {vs : List V} {xs : List Addr} {ys : List Addr}, RRs T H' (bkX bk ys) oa' rs vs xs → (∀ p ∈ xs, ¬ bk p) → ARs T H' bk oa' vs (rs.map R.pass)
  | _, _, _, _, .nil, _ => .nil
  | _, _, _, _, .al (r := r) hk hr t, n => .cons ⟨RepT.bkw hr fun b z => .inl z, fun z => absurd (by unfold R.pass; rw [if_pos hk]) z⟩ (t.args n)
  | _, _, _, _, .fz (r := r) hk hr t, n => .cons ⟨Rep.top (Rep.bkw hr fun b z => .inl z), fun z => Rep.bkw hr fun b z => .inl z⟩ (t.args n)
  | _, _, _, _, .ex (r := r) (p := p) hk hf t, n => by
    have t1 : RRs T H' (bkX bk _) oa' [r] [.ref p] [p] := .ex hk hf .nil
    have q := t1.fzs (fun x hx => by rw [List.mem_singleton.mp hx, hk]; simp) fun x hx => by rw [List.mem_singleton.mp hx]; exact n p List.mem_cons_self
    have q' : Rep T H' bk oa' (.ref p) r.d := by cases q with | cons q _ => exact q
    exact .cons ⟨q'.top, fun _ => q'⟩ (t.args fun x hx => n x (List.mem_cons_of_mem _ hx))
theorem Ext.toB (E1 : Ext T (Bc B ow) ow0 oa o1 H H1 oa1) : Ext T B ow oa o1 H H1 oa1 := ⟨E1.keep, E1.pre, E1.new, E1.obs.weak fun b z => bc_iff.mpr z⟩
theorem RepR.toB (h : RepR T (Bc B ow) ow0 oa' o' H H' r v) : RepR T B ow oa' o' H H' r v := by
  cases hk : r.k with
  | al =>
    have := h.rep_al hk
    unfold RepR
    rw [hk]
    exact RepT.bkw this fun b z => bc_iff.mpr z
  | fz =>
    have := h.rep_fz hk
    unfold RepR
    rw [hk]
    exact Rep.bkw this fun b z => bc_iff.mpr z
  | ex =>
    obtain ⟨p, e, h1, h2, h3, h4⟩ := h.rep_ex hk
    unfold RepR
    rw [hk]
    exact ⟨p, e, h1, h2, Fresh.bkw h3 fun b z => bc_iff.mpr z, h4.weak fun b z => z.elim (fun z => .inl (bc_iff.mpr z)) .inr⟩
/-- the promise, from the caller's state -/
theorem spD_of {F : List R → Objs → Rs R} {n : Nat} {rs : List R} {vs : List V} {xs : List Addr} {ys : List Addr} (S1 : SR T B H0 en o1 σ H1 ow oa1) (R1 : RRs T H1 (bkX (bkS B ow oa1) ys) oa1 rs vs xs) (nx : ∀ p ∈ xs, ¬ bkS B ow oa1 p) (hn : rs.length = n)
    (h : Good T B ow W σ oa1 H1 (F (rs.map R.pass) o1) Q) : spD T F n vs H1 Q (WE W σ) := by
  have ra := R1.args nx
  refine ⟨?_, Bc B ow, rs.map R.pass, o1, oa1, fun b z => ?_, S1.obs.weak fun b z => bc_iff.mp z, ?_, ?_⟩
  · have := ra.length
    rw [List.length_map] at this
    omega
  · rcases z with z | ⟨i, z⟩
    · exact S1.amb b z
    · obtain ⟨_, _, h3, h4, _⟩ := S1.ows i b z
      exact ⟨h4, h3⟩
  · exact Paired.mapP ra fun v r z => ⟨RepT.bkw z.1 fun b z => bc_iff.mp z, fun k => Rep.bkw (z.2 k) fun b z => bc_iff.mp z⟩
  · cases hF : F (rs.map R.pass) o1 with
    | ok r o' =>
      rw [hF] at h
      exact fun v H' oa' E1 R1 => h v H' oa' E1.toB R1.toB
    | exc c o' =>
      rw [hF] at h
      exact fun H' oa' E1 => h H' oa' E1.toB
    | bad => rw [hF] at h; exact h
theorem Es.ev_len : ∀ (es : Es) {en : Env} {o : Objs} {rs : List R} {o' : Objs}, es.ev G en o = .ok rs o' → ∀ n, (es.len = n) → rs.length = n
  | .nil, _, _, _, _, h, n, e => by cases h; exact e
  | .cons e r, en, o, rs, o', h, n, hn => by
    have h' : ((e.ev G en o).bind fun x o => (r.ev G en o).bind fun xs o => .ok (x :: xs) o) = .ok rs o' := h
    cases he : e.ev G en o with
    | bad => rw [he] at h'; cases h'
    | exc => rw [he] at h'; cases h'
    | ok x o1 =>
      rw [he] at h'
      have h2 : ((r.ev G en o1).bind fun xs o => .ok (x :: xs) o) = Rs.ok rs o' := h'
      cases hr : r.ev G en o1 with
      | bad => rw [hr] at h2; cases h2
      | exc => rw [hr] at h2; cases h2
      | ok xs o2 =>
        rw [hr] at h2
        cases h2
        have := Es.ev_len r hr _ rfl
        rw [List.length_cons, this]
        exact hn
theorem e_call {k : Nat} {f : Addr} {fd : FuncData} {ps : List Str} {x : Str} {p : Pos} {j n : Nat} (F : FnOk X.prog X.w X.K X.mg X.base (L2.CX X.prog X.w) k f fd ps (spD T (G.fn j) n)) (tk : Takes X W)
    (hr : Room k X.A) (hg : Gl X x) (hm : X.mg x = some (.ref f)) (hk : PySem.W.keepIn X.K (.ref f) = true) (hb : Binds X.K fd ps []) (ha : PA X (a :: es) (tL T G W ies)) (hl : ies.len = n)
    (hd : (x == ("__debug__" : Str)) = false) (he : starEach (a :: es) X.env = (false, eval a X.env) :: starEach es X.env) (hp : (backTo pos (starEach es X.env)).any (·.1) = false) : PE X (.Call (.Name x p) (a :: es) [] pos) (tE T G W (.call j ies)) := by
  refine pe_weak (pe_callS F hr hg hm hk hb (fun σ => passAt tk σ) ha hd he hp) fun σ H Q ⟨B, H0, en, o, ow, oa, S, h⟩ => ?_
  have h' : Good T B ow W σ oa H ((ies.ev G en o).bind fun xs o => G.fn j (xs.map R.pass) o) Q := h
  refine ⟨B, H0, en, o, ow, oa, S, ?_⟩
  cases he : ies.ev G en o with
  | bad => rw [he] at h'; exact h'.elim
  | exc c o1 => rw [he] at h'; exact h'
  | ok rs o1 =>
    rw [he] at h'
    intro vs H1 oa1 xs E1 R1 nd f O
    have S1 := S.ext E1
    refine spD_of S1 R1 (fun p hp z => ?_) (Es.ev_len ies he _ hl) (Good.mono h' S.obs E1)
    obtain ⟨f1, f2⟩ := f p hp
    rcases z with z | ⟨i, z⟩ | z
    · exact S.Bt p z f1
    · exact S.owt i p z f1
    · exact f2 z
end
end B
end

section
set_option Elab.async false
set_option linter.all false
set_option maxRecDepth 100000
set_option maxHeartbeats 1000000
/-! BM: what is walked. -/
namespace B
open PySem PySem.Spec PyProof.Rows L2
/-- from a state on, through statements: what is not changed; lk: the slots that are walked -/
structure Run (lk : List Nat) (ow1 : Nat → Option Addr) (oa1 : List Addr) (H1 : Hp) (ow : Nat → Option Addr) (oa : List Addr) (H : Hp) : Prop where
  keep : ∀ b u, H1 b = some u → b ∉ oa1 → (∀ i, ow1 i = some b → i ∈ lk) → H b = some u
  pre : ∀ (n : Nat) a, oa1[n]? = some a → oa[n]? = some a
  new : ∀ b, b ∈ oa → b ∈ oa1 ∨ H1 b = none
  own : ∀ i p, ow i = some p → (∃ j, ow1 j = some p) ∨ H1 p = none
  lck : ∀ i, i ∈ lk → ow i = ow1 i
  mt0 : ∀ b u, H1 b = some u → mutO u = false → H b = some u
  dom : ∀ b, H b = none → H1 b = none
/-- J walks ds, as long as nothing walked is changed -/
def Walk (T : Stat) (B : Addr → Prop) (lk : List Nat) (ow1 : Nat → Option Addr) (oa1 : List Addr) (H1 : Hp) (J : L2.It) (ds : List D) : Prop := ∀ ow oa H, Run lk ow1 oa1 H1 ow oa H → ∀ i : Nat,
  (∀ d, ds[i]? = some d → J.go i H ∧ ∀ x H', J.yld i H x H' → Prim T (bkS B ow oa) oa H ⟨d, .fz⟩ x H') ∧ (i = ds.length → J.stop i H)
def GoodIt (T : Stat) (B : Addr → Prop) (ow : Nat → Option Addr) (W : WX) (σ : St) (oa : List Addr) (H : Hp) (x : Rs (List D × List Nat)) (R : L2.It → Hp → Prop) : Prop := match x with
  | .ok y o' => ∀ J H' oa', Ext T B ow oa o' H H' oa' → Walk T B y.2 ow oa' H' J y.1 → R J H'
  | .exc c o' => ∀ H' oa', Ext T B ow oa o' H H' oa' → W (T.ex c) none σ H'
  | .bad => False
def tI (T : Stat) (G : Sg) (W : WX) (it : It) : TI := fun σ H R => ∃ B H0 en o ow oa, SR T B H0 en o σ H ow oa ∧ GoodIt T B ow W σ oa H (it.ev G en o) R
theorem pi_weak {X : Cx} {tg a : Expr} {t t' : TI} (h : PI X tg a t) (w : ∀ σ H R, t' σ H R → t σ H R) : PI X tg a t' := ⟨fun pins s σ H R I q => h.run pins s σ H R I (w σ H R q)⟩
section
variable {T : Stat} {G : Sg} {W : WX} {X : Cx} {B : Addr → Prop} {H0 H H1 H2 H' : Hp} {en : Env} {o o1 o2 o' : Objs} {σ : St} {ow ow1 : Nat → Option Addr} {oa oa1 oa2 oa' : List Addr} {bk bk' : Addr → Prop} {r : R} {v : V} {Q : VK} {lk : List Nat}
variable {a b c tg : Expr} {es : List Expr} {ea eb ec : E} {ies : Es} {pos : Pos}
theorem Run.refl : Run lk ow oa H ow oa H := ⟨fun _ _ e _ _ => e, fun _ _ e => e, fun _ h => .inl h, fun i p e => .inl ⟨i, e⟩, fun _ _ => rfl, fun _ _ e _ => e, fun _ e => e⟩
/-- what stands for data at the start, and may be kept, does so on -/
theorem Run.kp (Rn : Run lk ow1 oa1 H1 ow oa H) (S : SR T B H0 en o σ H1 ow1 oa1) : ∀ b u, H1 b = some u → (bkS B ow1 oa1 b → mutO u = false) → H b = some u := fun b u e h => by
  by_cases hb : bkS B ow1 oa1 b
  · exact Rn.mt0 b u e (h hb)
  · exact Rn.keep b u e (fun z => hb (.inr (.inr z))) fun i z => absurd (.inr (.inl ⟨i, z⟩)) hb
theorem Run.blk (Rn : Run lk ow1 oa1 H1 ow oa H) (b : Addr) (z : bkS B ow oa b) : bkS B ow1 oa1 b ∨ H1 b = none := by
  rcases z with z | ⟨i, z⟩ | z
  · exact .inl (.inl z)
  · rcases Rn.own i b z with h | h
    · exact .inl (.inr (.inl h))
    · exact .inr h
  · rcases Rn.new b z with h | h
    · exact .inl (.inr (.inr h))
    · exact .inr h
theorem Run.rep (Rn : Run lk ow1 oa1 H1 ow oa H) (S : SR T B H0 en o σ H1 ow1 oa1) {d : D} (h : Rep T H1 (bkS B ow1 oa1) oa1 v d) : Rep T H (bkS B ow oa) oa v d := Rep.step (Rn.kp S) Rn.blk Rn.pre _ _ h
theorem Run.reps (Rn : Run lk ow1 oa1 H1 ow oa H) (S : SR T B H0 en o σ H1 ow1 oa1) {vs : List V} {ds : List D} (h : Reps T H1 (bkS B ow1 oa1) oa1 vs ds) : Reps T H (bkS B ow oa) oa vs ds := Reps.step (Rn.kp S) Rn.blk Rn.pre _ _ h
theorem Ext.run (E1 : Ext T B ow oa o1 H H1 oa1) (O : Obs T H bk oa o) : Run lk ow oa H ow oa1 H1 where
  keep := fun b u e h _ => E1.keep b u e h
  pre := E1.pre
  new := E1.new
  own := fun i p e => .inl ⟨i, e⟩
  lck := fun _ _ => rfl
  mt0 := fun b u e m => E1.keep b u e fun z => by
    obtain ⟨dx, vs, q⟩ := O.ins z
    rw [q] at e
    cases e
    cases m
  dom := fun b h => E1.non O h
/-- a list that is walked: it stands, its items stand for data -/
theorem walked {e : E} {xs : List D} (S1 : SR T B H0 en o1 σ H1 ow1 oa1) (R1 : RepR T B ow1 oa1 o1 H H1 r v) (O : ∀ i p, ow1 i = some p → H p ≠ none) (Bt : ∀ b, B b → H b ≠ none) (h : itL e.slot r = some xs) (hv : ∀ i, e = .var i → ∃ rr, e.ev G en o1 = .ok rr o1 ∧ rr = r ∧ σ[i]? = some (some v)) :
    ∃ a vs, v = .ref a ∧ H1 a = some (.lst vs) ∧ vs.length = xs.length ∧ ∀ ow oa H, Run e.slot ow1 oa1 H1 ow oa H → H a = some (.lst vs) ∧ Reps T H (bkS B ow oa) oa vs xs := by
  unfold itL at h
  cases hd : r.d <;> rw [hd] at h <;> first | cases h | skip
  rename_i ys
  have h' : (if r.k = .al ∧ e.slot = [] then none else some ys) = some xs := h
  rw [Option.ite_none_left_eq_some] at h'
  obtain ⟨c, h'⟩ := h'
  cases h'
  have t := R1.top S1
  rw [hd] at t
  obtain ⟨a, vs, rfl, h1, h2⟩ := t.lst_
  have na : a ∉ oa1 := fun z => by
    obtain ⟨dx, ws, q⟩ := S1.obs.ins z
    rw [q] at h1; cases h1
  refine ⟨a, vs, rfl, h1, h2.len, fun ow oa H2 Rn => ⟨?_, Rn.reps S1 h2⟩⟩
  by_cases hk : r.k = .al
  · have hs : e.slot ≠ [] := fun z => c ⟨hk, z⟩
    cases e with
    | var i =>
      obtain ⟨rr, he, rfl, hσ⟩ := hv i rfl
      refine Rn.keep _ _ h1 na fun j hj => ?_
      have he' : (match en[i]? with
        | some (.val r) => Rs.ok r.pass o1
        | some (.own xs) => .ok ⟨.lst xs, .al⟩ o1
        | some (.ownd kvs) => .ok ⟨.dct kvs, .al⟩ o1
        | _ => .bad) = .ok rr o1 := he
      cases hen : en[i]? with
      | none => rw [hen] at he'; cases he'
      | some s =>
        rw [hen] at he'
        cases s with
        | none => cases he'
        | val q =>
          cases he'
          have hq : q.k = .al := by
            by_cases z : q.k = .al
            · exact z
            · unfold R.pass at hk
              rw [if_neg z] at hk
              cases hk
          exact absurd (S1.ows j a hj).1 (S1.alt i q a hen hq (by rw [show q.d = .lst xs from hd]; rfl) hσ)
        | own zs =>
          obtain ⟨p, ws, q1, q2, q3, q4⟩ := S1.own i zs hen
          rw [hσ] at q2
          cases q2
          have := S1.inj i j a q1 hj
          subst this
          exact List.mem_singleton.mpr rfl
        | ownd kvs =>
          obtain ⟨p, q1, q2, q3, q4⟩ := S1.ownd i kvs hen
          rw [hσ] at q2
          cases q2
          rw [q3] at h1
          cases h1
    | _ => exact absurd rfl hs
  · have q := R1.fz S1 O Bt hk
    rw [hd] at q
    cases q with
    | lst h3 nb h4 => exact Rn.keep _ _ h1 na fun i z => absurd (.inr (.inl ⟨i, z⟩)) nb
theorem var_at {i : Nat} {x : V} (S : SR T B H0 en o σ H ow oa) : True := trivial
/-- the walked list's expression: a name's value stands in its slot -/
def tE' (T : Stat) (G : Sg) (W : WX) (e : E) : TE := fun σ H Q => ∃ B H0 en o ow oa, SR T B H0 en o σ H ow oa ∧ match e.ev G en o with
  | .ok r o' => ∀ v H' oa', Ext T B ow oa o' H H' oa' → RepR T B ow oa' o' H H' r v → (∀ i, e = .var i → ∃ rr, e.ev G en o' = .ok rr o' ∧ rr = r ∧ σ[i]? = some (some v)) → Q v H'
  | .exc c o' => ∀ H' oa', Ext T B ow oa o' H H' oa' → W (T.ex c) none σ H'
  | .bad => False
theorem e_strong {e : E} (h : PE X a (tE T G W e)) (hv : ∀ i, e = .var i → PE X a (tVar i)) : PE X a (tE' T G W e) := by
  by_cases hi : ∃ i, e = .var i
  · obtain ⟨i, rfl⟩ := hi
    refine pe_weak (hv i rfl) fun σ H Q ⟨B, H0, en, o, ow, oa, S, h⟩ => ?_
    have h' : match (match en[i]? with
        | some (.val r) => Rs.ok r.pass o
        | some (.own xs) => .ok ⟨.lst xs, .al⟩ o
        | some (.ownd kvs) => .ok ⟨.dct kvs, .al⟩ o
        | _ => .bad) with
      | .ok r o' => ∀ v H' oa', Ext T B ow oa o' H H' oa' → RepR T B ow oa' o' H H' r v → (∀ j, E.var i = .var j → ∃ rr, (E.var i).ev G en o' = .ok rr o' ∧ rr = r ∧ σ[j]? = some (some v)) → Q v H'
      | .exc c o' => ∀ H' oa', Ext T B ow oa o' H H' oa' → W (T.ex c) none σ H'
      | .bad => False := h
    cases hen : en[i]? with
    | none => rw [hen] at h'; exact h'.elim
    | some s =>
      rw [hen] at h'
      have ev : ∀ o, (E.var i).ev G en o = (match some s with
        | some (.val r) => Rs.ok r.pass o
        | some (.own xs) => .ok ⟨.lst xs, .al⟩ o
        | some (.ownd kvs) => .ok ⟨.dct kvs, .al⟩ o
        | _ => .bad) := fun o => by
        rw [← hen]
        rfl
      cases s with
      | none => exact h'.elim
      | val r =>
        obtain ⟨v, h1, h2, h3⟩ := S.val i r hen
        refine ⟨v, h1, h' v H oa (.refl S.obs) ?_ fun j hj => by cases hj; exact ⟨_, ev o, rfl, h1⟩⟩
        unfold RepR R.pass
        by_cases hk : r.k = .al
        · simp only [hk, if_true]
          exact h2
        · simp only [hk, if_false]
          exact h3 hk
      | own xs =>
        obtain ⟨p, vs, h1, h2, h3, h4⟩ := S.own i xs hen
        exact ⟨_, h2, h' _ H oa (.refl S.obs) ⟨p, vs, rfl, h3, h4⟩ fun j hj => by cases hj; exact ⟨_, ev o, rfl, h2⟩⟩
      | ownd kvs =>
        obtain ⟨p, h1, h2, h3, h4⟩ := S.ownd i kvs hen
        exact ⟨_, h2, h' _ H oa (.refl S.obs) ⟨p, rfl, h3, h4⟩ fun j hj => by cases hj; exact ⟨_, ev o, rfl, h2⟩⟩
  · refine pe_weak h fun σ H Q ⟨B, H0, en, o, ow, oa, S, h⟩ => ⟨B, H0, en, o, ow, oa, S, ?_⟩
    cases he : e.ev G en o with
    | bad => rw [he] at h; exact h
    | exc => rw [he] at h; exact h
    | ok r o1 =>
      rw [he] at h
      exact fun v H' oa' E1 R1 => h v H' oa' E1 R1 fun i z => absurd ⟨i, z⟩ hi
theorem Rs.bind_ok {α β : Type} {x : Rs α} {a : α} {o : Objs} {f : α → Objs → Rs β} (h : x = .ok a o) : x.bind f = f a o := by rw [h]; rfl
end
end B
end

section
set_option Elab.async false
set_option linter.all false
set_option maxRecDepth 100000
set_option maxHeartbeats 1000000
/-! BN: the things walked, each. -/
namespace B
open PySem PySem.Spec PyProof.Rows L2
section
variable {T : Stat} {G : Sg} {W : WX} {X : Cx} {B : Addr → Prop} {H0 H H1 H2 H' : Hp} {en : Env} {o o1 o2 o' : Objs} {σ : St} {ow ow1 : Nat → Option Addr} {oa oa1 oa2 oa' : List Addr} {bk bk' : Addr → Prop} {r : R} {v : V} {Q : VK} {lk : List Nat}
variable {a b c tg : Expr} {es : List Expr} {ea eb ec : E} {ies : Es} {pos : Pos}
theorem GoodIt.mono {x : Rs (List D × List Nat)} {R : L2.It → Hp → Prop} (h : GoodIt T B ow W σ oa H x R) (O : Obs T H bk oa o) (E1 : Ext T B ow oa o1 H H1 oa1) : GoodIt T B ow W σ oa1 H1 x R := by
  cases x with
  | ok y o' => exact fun J H' oa' E2 w => h J H' oa' (E1.trans O E2) w
  | exc c o' => exact fun H' oa' E2 => h H' oa' (E1.trans O E2)
  | bad => exact h
theorem GoodIt.ofO {x : Option (List D × List Nat)} {R : L2.It → Hp → Prop} (h : GoodIt T B ow W σ oa H (_root_.B.ofO o x) R) : ∃ y, x = some y ∧ GoodIt T B ow W σ oa H (.ok y o) R := by
  cases x with
  | none => exact h.elim
  | some r => exact ⟨r, rfl, h⟩
theorem walk_a {e : E} {f : R → Objs → Rs (List D × List Nat)} {R : L2.It → Hp → Prop} {Rk : VK} (S : SR T B H0 en o σ H ow oa) (h : GoodIt T B ow W σ oa H ((e.ev G en o).bind f) R)
    (k : ∀ r o1 v H1 oa1, Ext T B ow oa o1 H H1 oa1 → RepR T B ow oa1 o1 H H1 r v → SR T B H0 en o1 σ H1 ow oa1 → (∀ i, e = .var i → ∃ rr, e.ev G en o1 = .ok rr o1 ∧ rr = r ∧ σ[i]? = some (some v)) → GoodIt T B ow W σ oa1 H1 (f r o1) R → Rk v H1) : tE' T G W e σ H Rk := by
  refine ⟨B, H0, en, o, ow, oa, S, ?_⟩
  cases he : e.ev G en o with
  | ok r o1 =>
    rw [he] at h
    exact fun v H1 oa1 E1 R1 hv => k r o1 v H1 oa1 E1 R1 (S.ext E1) hv (GoodIt.mono h S.obs E1)
  | exc c o1 =>
    rw [he] at h
    exact h
  | bad =>
    rw [he] at h
    exact h
theorem walk_b {e : E} {f : R → Objs → Rs (List D × List Nat)} {R : L2.It → Hp → Prop} {Rk : VK} (S : SR T B H0 en o σ H ow oa) (h : GoodIt T B ow W σ oa H ((e.ev G en o).bind f) R)
    (k : ∀ r o1 v H1 oa1, Ext T B ow oa o1 H H1 oa1 → RepR T B ow oa1 o1 H H1 r v → SR T B H0 en o1 σ H1 ow oa1 → GoodIt T B ow W σ oa1 H1 (f r o1) R → Rk v H1) : tE T G W e σ H Rk := by
  refine ⟨B, H0, en, o, ow, oa, S, ?_⟩
  cases he : e.ev G en o with
  | ok r o1 =>
    rw [he] at h
    exact fun v H1 oa1 E1 R1 => k r o1 v H1 oa1 E1 R1 (S.ext E1) (GoodIt.mono h S.obs E1)
  | exc c o1 =>
    rw [he] at h
    exact h
  | bad =>
    rw [he] at h
    exact h
theorem Run.behind {lk' : List Nat} (E1 : Ext T B ow oa o1 H H1 oa1) (O : Obs T H bk oa o) (R : Run lk' ow oa1 H1 ow1 oa2 H2) (hl : ∀ i, i ∈ lk → i ∈ lk') : Run lk ow oa H ow1 oa2 H2 where
  keep := fun b u e h1 h2 => R.keep b u (E1.keep b u e h1) (fun z => (E1.new b z).elim h1 (by rw [e]; simp)) fun i hi => hl i (h2 i hi)
  pre := fun n a e => R.pre n a (E1.pre n a e)
  new := fun b hb => by
    rcases R.new b hb with h | h
    · exact E1.new b h
    · exact .inr (E1.non O h)
  own := fun i p e => by
    rcases R.own i p e with h | h
    · exact .inl h
    · exact .inr (E1.non O h)
  lck := fun i hi => R.lck i (hl i hi)
  mt0 := fun b u e m => R.mt0 b u ((Ext.run E1 O (lk := [])).mt0 b u e m) m
  dom := fun b h => E1.non O (R.dom b h)
theorem sq_of {K : PySem.W.Frag} {a : Addr} {vs : List V} (h : H a = some (.lst vs)) : SqL K H a vs := SqL.of h
theorem GoodIt.go {y : List D × List Nat} {R : L2.It → Hp → Prop} {J : L2.It} (S1 : SR T B H0 en o σ H ow oa) (h : GoodIt T B ow W σ oa H (.ok y o) R) (w : Walk T B y.2 ow oa H J y.1) : R J H := h J H oa (.refl S1.obs) w
theorem i_lst (ha : PE X a (tE' T G W ea)) : PI X tg a (tI T G W (.lst ea)) :=
  pi_weak (pi_list ha) fun σ H R ⟨B, H0, en, o, ow, oa, S, h⟩ => walk_a S h fun r o1 v H1 oa1 E1 R1 S1 hv h => by
    obtain ⟨y, hy, h⟩ := GoodIt.ofO h
    obtain ⟨xs, hx, rfl⟩ := Option.map_eq_some_iff.mp hy
    obtain ⟨a, vs, rfl, h1, h2, h3⟩ := walked S1 R1 S.owt S.Bt hx hv
    refine ⟨a, rfl, ⟨vs, sq_of h1⟩, h.go S1 fun ow2 oa2 H2 Rn i => ?_⟩
    obtain ⟨h4, h5⟩ := h3 ow2 oa2 H2 Rn
    refine ⟨fun d hd => ?_, fun hl' => have hl := Nat.le_of_eq (Eq.symm hl'); ⟨vs, sq_of h4, by rw [h5.len]; exact hl⟩⟩
    obtain ⟨v, hv, rv⟩ := h5.get hd
    exact ⟨⟨vs, v, sq_of h4, hv⟩, fun x H' ⟨e1, e2⟩ => by
      have := e2 vs (sq_of h4)
      rw [hv] at this
      cases this
      exact .inl ⟨e1, rv⟩⟩
theorem enumD_get : ∀ (xs : List D) (n i : Nat), (enumD n xs)[i]? = (xs[i]?).map fun d => D.tup [.int (n + i : Nat), d]
  | [], n, i => rfl
  | x :: r, n, 0 => rfl
  | x :: r, n, i + 1 => by
    show (enumD (n + 1) r)[i]? = _
    rw [enumD_get r (n + 1) i]
    show _ = (r[i]?).map _
    rw [show n + 1 + i = n + (i + 1) by omega]
theorem enumD_len : ∀ (xs : List D) (n : Nat), (enumD n xs).length = xs.length
  | [], _ => rfl
  | x :: r, n => by simp [enumD, enumD_len r]
theorem i_enum {p cpos tpos : Pos} {elts : List Expr} {kk : Nat} (hg : Gl X "enumerate") (hm : X.mg "enumerate" = none) (hs : starEach [a] X.env = (false, eval a X.env) :: starEach [] X.env) (ha : PE X a (tE' T G W ea)) : PI X (.Tuple elts kk tpos) (.Call (.Name "enumerate" p) [a] [] cpos) (tI T G W (.enum ea)) :=
  pi_weak (pi_enum hg hm (pa_cons ha pa_nil hs) hs) fun σ H R ⟨B, H0, en, o, ow, oa, S, h⟩ => walk_a S h fun r o1 v H1 oa1 E1 R1 S1 hv h => by
    obtain ⟨y, hy, h⟩ := GoodIt.ofO h
    obtain ⟨xs, hx, rfl⟩ := Option.map_eq_some_iff.mp hy
    obtain ⟨a, vs, rfl, h1, h2, h3⟩ := walked S1 R1 S.owt S.Bt hx hv
    refine ⟨a, vs, rfl, sq_of h1, h.go S1 fun ow2 oa2 H2 Rn i => ?_⟩
    obtain ⟨h4, h5⟩ := h3 ow2 oa2 H2 Rn
    refine ⟨fun d hd => ?_, fun hl' => have hl := Nat.le_of_eq (Eq.symm hl'); ⟨vs, sq_of h4, by rw [h5.len]; exact enumD_len xs 0 ▸ hl⟩⟩
    rw [enumD_get] at hd
    obtain ⟨d', hd', rfl⟩ := Option.map_eq_some_iff.mp hd
    obtain ⟨v, hv, rv⟩ := h5.get hd'
    exact ⟨⟨vs, v, sq_of h4, hv⟩, fun x H' ⟨t, x', e1, e2, e3, e4⟩ => by
      have := e4 vs (sq_of h4)
      rw [hv] at this
      cases this
      refine .inr ⟨t, _, [.int (i : Nat), v], rfl, e1, e2, e3, .cons ?_ (.cons rv .nil)⟩
      rw [Nat.zero_add]
      exact .int _⟩
theorem zipD_get : ∀ (xs ys : List D) (i : Nat) (d : D), (zipD xs ys)[i]? = some d → ∃ x y, xs[i]? = some x ∧ ys[i]? = some y ∧ d = .tup [x, y]
  | [], _, i, d, h => by simp [zipD] at h
  | _ :: _, [], i, d, h => by simp [zipD] at h
  | x :: xs, y :: ys, 0, d, h => by
    simp [zipD] at h
    exact ⟨x, y, rfl, rfl, h.symm⟩
  | x :: xs, y :: ys, i + 1, d, h => zipD_get xs ys i d h
theorem zipD_len : ∀ (xs ys : List D), (zipD xs ys).length = min xs.length ys.length
  | [], _ => by simp [zipD]
  | _ :: _, [] => by simp [zipD]
  | x :: xs, y :: ys => by simp [zipD, zipD_len xs ys]
theorem i_zip {p cpos tpos : Pos} {elts : List Expr} {kk : Nat} (hg : Gl X "zip") (hm : X.mg "zip" = none) (hs : starEach [a, b] X.env = (false, eval a X.env) :: starEach [b] X.env) (hs2 : starEach [b] X.env = (false, eval b X.env) :: starEach [] X.env) (hpl : (backTo cpos (starEach [b] X.env)).any (·.1) = false) (ha : PE X a (tE' T G W ea)) (hb : PE X b (tE' T G W eb)) : PI X (.Tuple elts kk tpos) (.Call (.Name "zip" p) [a, b] [] cpos) (tI T G W (.zip ea eb)) :=
  pi_weak (pi_zip hg hm (pa_cons ha (pa_cons hb pa_nil hs2) hs) hs hpl) fun σ H R ⟨B, H0, en, o, ow, oa, S, h⟩ => walk_a S h fun r o1 v H1 oa1 E1 R1 S1 hv h => walk_a S1 h fun r2 o2 v2 H2 oa2 E2 R2 S2 hv2 h => by
    obtain ⟨y, hy, h⟩ := GoodIt.ofO h
    obtain ⟨xs, hx, hy⟩ := Option.bind_eq_some_iff.mp hy
    obtain ⟨ys, hx2, rfl⟩ := Option.map_eq_some_iff.mp hy
    obtain ⟨a, vs, rfl, h1, h2, h3⟩ := walked S1 R1 S.owt S.Bt hx hv
    obtain ⟨b, ws, rfl, k1, k2, k3⟩ := walked S2 R2 S1.owt S1.Bt hx2 hv2
    refine ⟨a, b, vs, ws, rfl, sq_of (h3 _ _ _ (Ext.run E2 S1.obs)).1, sq_of k1, h.go S2 fun ow3 oa3 H3 Rn i => ?_⟩
    obtain ⟨h4, h5⟩ := h3 ow3 oa3 H3 (Run.behind E2 S1.obs Rn fun i hi => List.mem_append_left _ hi)
    obtain ⟨k4, k5⟩ := k3 ow3 oa3 H3 (Run.behind (Ext.refl S2.obs) S2.obs Rn fun i hi => List.mem_append_right _ hi)
    refine ⟨fun d hd => ?_, fun hl' => have hl := Nat.le_of_eq (Eq.symm hl'); ⟨vs, ws, sq_of h4, sq_of k4, by
      have hl : (zipD xs ys).length ≤ i := hl
      rw [zipD_len] at hl
      rw [h5.len, k5.len]
      omega⟩⟩
    obtain ⟨d1, d2, hd1, hd2, rfl⟩ := zipD_get _ _ _ _ hd
    obtain ⟨v, hv, rv⟩ := h5.get hd1
    obtain ⟨v', hv', rv'⟩ := k5.get hd2
    exact ⟨⟨vs, ws, v, v', sq_of h4, sq_of k4, hv, hv'⟩, fun x H' ⟨t, x', y', e1, e2, e3, e4, e5⟩ => by
      have := e4 vs (sq_of h4)
      rw [hv] at this
      cases this
      have := e5 ws (sq_of k4)
      rw [hv'] at this
      cases this
      exact .inr ⟨t, _, [v, v'], rfl, e1, e2, e3, .cons rv (.cons rv' .nil)⟩⟩
theorem i_tup (hK : T.K = X.K) (ha : PE X a (tE T G W ea)) : PI X tg a (tI T G W (.tup ea)) :=
  pi_weak (pi_tup ha) fun σ H R ⟨B, H0, en, o, ow, oa, S, h⟩ => walk_b S h fun r o1 v H1 oa1 E1 R1 S1 h => by
    cases hd : r.d <;> rw [hd] at h <;> first | exact h.elim | skip
    rename_i xs
    have t := R1.top S1
    rw [hd] at t
    cases t with
    | tup h1 h2 =>
      rename_i a vs
      rw [hK] at h1
      refine ⟨a, rfl, ⟨vs, h1⟩, h.go S1 fun ow2 oa2 H2 Rn i => ?_⟩
      have h4 : SqT X.K H2 a vs := by
        have := rd_tupK (T := T) (by rw [hK]; exact h1) (Rn.kp S1)
        rw [hK] at this
        exact this
      have h5 := Rn.reps S1 h2
      refine ⟨fun d hd => ?_, fun hl' => have hl := Nat.le_of_eq (Eq.symm hl'); ⟨vs, h4, by rw [h5.len]; exact hl⟩⟩
      obtain ⟨v, hv, rv⟩ := h5.get hd
      exact ⟨⟨vs, v, h4, hv⟩, fun x H' ⟨e1, e2⟩ => by
        have := e2 vs h4
        rw [hv] at this
        cases this
        exact .inl ⟨e1, rv⟩⟩
theorem i_str (ha : PE X a (tE T G W ea)) : PI X tg a (tI T G W (.str ea)) :=
  pi_weak (pi_str ha) fun σ H R ⟨B, H0, en, o, ow, oa, S, h⟩ => walk_b S h fun r o1 v H1 oa1 E1 R1 S1 h => by
    cases hd : r.d <;> rw [hd] at h <;> first | exact h.elim | skip
    rename_i s
    have t := R1.top S1
    rw [hd] at t
    cases t with
    | str hs =>
      refine ⟨tS s, rfl, h.go S1 fun ow2 oa2 H2 Rn i => ⟨fun d hd => ?_, fun hl' => have hl := Nat.le_of_eq (Eq.symm hl'); ?_⟩⟩
      · have hd : (s.map fun c => D.str [c])[i]? = some d := hd
        rw [List.getElem?_map] at hd
        obtain ⟨c, hc, rfl⟩ := Option.map_eq_some_iff.mp hd
        refine ⟨?_, fun x H' ⟨e1, c', e2, e3⟩ => .inl ⟨e1, ?_⟩⟩
        · show i < s.toArray.size
          obtain ⟨hi, _⟩ := List.getElem?_eq_some_iff.mp hc
          simpa using hi
        · have e2' : s.toArray[i]? = some c' := e2
          rw [List.getElem?_toArray, hc] at e2'
          cases e2'
          rw [e3]
          exact .str (s := [c]) fun z hz => by
            rw [List.mem_singleton.mp hz]
            exact hs _ (List.mem_of_getElem? hc)
      · have hl : (s.map fun c => D.str [c]).length ≤ i := hl
        show s.toArray.size ≤ i
        simpa using hl
theorem rngD_get : ∀ (n : Nat) (lo c : Int) (i : Nat), (rngD lo c n)[i]? = if i < n then some (.int (lo + i * c)) else none
  | 0, lo, c, i => rfl
  | n + 1, lo, c, 0 => by simp [rngD]
  | n + 1, lo, c, i + 1 => by
    show (rngD (lo + c) c n)[i]? = _
    rw [rngD_get n]
    have : lo + c + (i : Int) * c = lo + ((i + 1 : Nat) : Int) * c := by
      rw [Int.natCast_add, Int.add_mul]
      simp
      omega
    rw [this]
    simp only [Nat.add_lt_add_iff_right]
theorem rngD_len : ∀ (n : Nat) (lo c : Int), (rngD lo c n).length = n
  | 0, _, _ => rfl
  | n + 1, lo, c => by simp [rngD, rngD_len n]
theorem R_int (S1 : SR T B H0 en o1 σ H1 ow oa1) (R1 : RepR T B ow oa1 o1 H H1 r v) {n : Int} (e : r.d = .int n) : v = .int n := by
  have t := R1.top S1
  rw [e] at t
  cases t
  rfl
theorem walk_rng {lo : Int} {n : Nat} : Walk T B lk ow1 oa1 H1 (Itr lo n) (rngD lo 1 n) := fun ow oa H _ i => by
  refine ⟨fun d hd => ?_, fun hl' => by have hl := Nat.le_of_eq (Eq.symm hl'); rw [rngD_len] at hl; exact hl⟩
  · rw [rngD_get] at hd
    split at hd
    · cases hd
      refine ⟨‹_›, fun x H' ⟨e1, e2⟩ => .inl ⟨e1, ?_⟩⟩
      rw [e2, Int.mul_one]
      exact .int _
    · cases hd
theorem walk_rngC {lo c : Int} {n : Nat} : Walk T B lk ow1 oa1 H1 (Itc lo c n) (rngD lo c n) := fun ow oa H _ i => by
  refine ⟨fun d hd => ?_, fun hl' => by have hl := Nat.le_of_eq (Eq.symm hl'); rw [rngD_len] at hl; exact hl⟩
  · rw [rngD_get] at hd
    split at hd
    · cases hd
      refine ⟨‹_›, fun x H' ⟨e1, e2⟩ => .inl ⟨e1, ?_⟩⟩
      rw [e2]
      exact .int _
    · cases hd
theorem i_rng1 {p cpos : Pos} (hg : Gl X "range") (hm : X.mg "range" = none) (hs : starEach [a] X.env = (false, eval a X.env) :: starEach [] X.env) (ha : PE X a (tE T G W ea)) : PI X tg (.Call (.Name "range" p) [a] [] cpos) (tI T G W (.rng1 ea)) :=
  pi_weak (pi_range1 hg hm (pa_cons ha pa_nil hs) hs) fun σ H R ⟨B, H0, en, o, ow, oa, S, h⟩ => walk_b S h fun r o1 v H1 oa1 E1 R1 S1 h => by
    cases hd : r.d <;> rw [hd] at h <;> first | exact h.elim | skip
    rename_i n
    have h' : GoodIt T B ow W σ oa1 H1 (if n ≤ 1000000 ∧ -1000000 ≤ n then .ok (rngD 0 1 n.toNat, []) o1 else .bad) R := h
    split at h'
    · rw [R_int S1 R1 hd]
      exact ⟨n, rfl, by omega, by omega, h'.go S1 walk_rng⟩
    · exact h'.elim
theorem i_rng2 {p cpos : Pos} (hg : Gl X "range") (hm : X.mg "range" = none) (hs : starEach [a, b] X.env = (false, eval a X.env) :: starEach [b] X.env) (hs2 : starEach [b] X.env = (false, eval b X.env) :: starEach [] X.env) (ha : PE X a (tE T G W ea)) (hb : PE X b (tE T G W eb)) : PI X tg (.Call (.Name "range" p) [a, b] [] cpos) (tI T G W (.rng2 ea eb)) :=
  pi_weak (pi_range2 hg hm (pa_cons ha (pa_cons hb pa_nil hs2) hs) (by rw [hs, hs2]; rfl) (by rw [hs2]; rfl)) fun σ H R ⟨B, H0, en, o, ow, oa, S, h⟩ => walk_b S h fun r o1 v H1 oa1 E1 R1 S1 h => walk_b S1 h fun r2 o2 v2 H2 oa2 E2 R2 S2 h => by
    cases hd : r.d <;> rw [hd] at h <;> first | exact h.elim | skip
    rename_i l
    cases hd2 : r2.d <;> rw [hd2] at h <;> first | exact h.elim | skip
    rename_i u
    have h' : GoodIt T B ow W σ oa2 H2 (if -1000000 ≤ l ∧ l ≤ 1000000 ∧ -1000000 ≤ u ∧ u ≤ 1000000 then .ok (rngD l 1 (u - l).toNat, []) o2 else .bad) R := h
    split at h'
    · rw [R_int S1 R1 hd, R_int S2 R2 hd2]
      exact ⟨l, u, rfl, by omega, h'.go S2 walk_rng⟩
    · exact h'.elim
theorem rgC_pos {i j c : Int} (hc : 0 < c) (hc' : c ≤ 1000) (h : -1000000 ≤ i ∧ i ≤ 1000000 ∧ -1000000 ≤ j ∧ j ≤ 1000000) : RgC i j c (rngN i j c) := by
  have e : Builtin.Range.rangeSize i j c = (rngN i j c : Nat) := by
    unfold Builtin.Range.rangeSize rngN
    rw [if_pos hc, if_pos hc]
    split
    · have e2 : j - i + c - 1 = (j - i - 1) + c * 1 := by omega
      rw [e2, Int.add_mul_ediv_left _ _ (by omega)]
      have : 0 ≤ (j - i - 1) / c := Int.ediv_nonneg (by omega) (by omega)
      omega
    · have : (j - i + c - 1) / c ≤ 0 := by
        have : (j - i + c - 1) / c < 1 := Int.ediv_lt_of_lt_mul hc (by omega)
        omega
      omega
  refine ⟨by omega, by omega, ?_, e⟩
  unfold Builtin.Range.small
  rw [e]
  have hn : (rngN i j c : Int) ≤ 2000001 + 1000 := by
    unfold rngN
    rw [if_pos hc]
    have h0 : (j - i + c - 1) / c ≤ 2001000 := by
      by_cases hz : 0 ≤ j - i + c - 1
      · exact Int.le_trans (Int.ediv_le_self _ hz) (by omega)
      · have : (j - i + c - 1) / c < 1 := Int.ediv_lt_of_lt_mul hc (by omega)
        omega
    omega
  have hp : c > 0 := hc
  simp only [Builtin.Range.rangeFitsLong, Bool.and_eq_true, Bool.or_eq_true, decide_eq_true_eq, beq_iff_eq, hp, if_true]
  omega
theorem i_rng3 {p cpos : Pos} (hg : Gl X "range") (hm : X.mg "range" = none) (hs : starEach [a, b, c] X.env = (false, eval a X.env) :: starEach [b, c] X.env) (hs2 : starEach [b, c] X.env = (false, eval b X.env) :: starEach [c] X.env) (hs3 : starEach [c] X.env = (false, eval c X.env) :: starEach [] X.env) (hpl : (backTo cpos (starEach [b, c] X.env)).any (·.1) = false)
    (ha : PE X a (tE T G W ea)) (hb : PE X b (tE T G W eb)) (hc : PE X c (tE T G W ec)) : PI X tg (.Call (.Name "range" p) [a, b, c] [] cpos) (tI T G W (.rng3 ea eb ec)) :=
  pi_weak (pi_range3 hg hm (pa_cons ha (pa_cons hb (pa_cons hc pa_nil hs3) hs2) hs) hs hpl) fun σ H R ⟨B, H0, en, o, ow, oa, S, h⟩ => walk_b S h fun r o1 v H1 oa1 E1 R1 S1 h => walk_b S1 h fun r2 o2 v2 H2 oa2 E2 R2 S2 h => walk_b S2 h fun r3 o3 v3 H3 oa3 E3 R3 S3 h => by
    cases hd : r.d <;> rw [hd] at h <;> first | exact h.elim | skip
    rename_i l
    cases hd2 : r2.d <;> rw [hd2] at h <;> first | exact h.elim | skip
    rename_i u
    cases hd3 : r3.d <;> rw [hd3] at h <;> first | exact h.elim | skip
    rename_i z
    have h' : GoodIt T B ow W σ oa3 H3 (if -1000000 ≤ l ∧ l ≤ 1000000 ∧ -1000000 ≤ u ∧ u ≤ 1000000 ∧ 0 < z ∧ z ≤ 1000 then .ok (rngD l z (rngN l u z), []) o3 else .bad) R := h
    split at h'
    · rename_i hh
      rw [R_int S1 R1 hd, R_int S2 R2 hd2, R_int S3 R3 hd3]
      exact ⟨l, u, z, _, rfl, rgC_pos hh.2.2.2.2.1 hh.2.2.2.2.2 ⟨hh.1, hh.2.1, hh.2.2.1, hh.2.2.2.1⟩, h'.go S3 walk_rngC⟩
    · exact h'.elim
end
end B
end

section
set_option Elab.async false
set_option linter.all false
set_option maxRecDepth 100000
set_option maxHeartbeats 1000000
/-! BO: what is stored in slots. -/
namespace B
open PySem PySem.Spec PyProof.Rows L2
/-- own slots, of which some are let go -/
structure OwSub (lk is : List Nat) (ow ow' : Nat → Option Addr) : Prop where
  sub : ∀ j p, ow' j = some p → ow j = some p
  lck : ∀ j, j ∈ lk → ow' j = ow j
  off : ∀ j, j ∉ is → ow' j = ow j
def setL : St → List Nat → List V → St
  | σ, i :: is, v :: vs => setL (σ.set i (some v)) is vs
  | σ, _, _ => σ
def gMany : List Nat → TGs
  | [] => gNil
  | i :: is => gCons (gName i) (gMany is)
def gT (K : PySem.W.Frag) : Tg → TG
  | .one i => gName i
  | .many is => gTup K is.length (gMany is)
section
variable {T : Stat} {G : Sg} {W : WX} {X : Cx} {B : Addr → Prop} {H0 H H1 H2 H' : Hp} {en en' : Env} {o o1 o2 o' : Objs} {σ σ' : St} {ow ow1 ow' : Nat → Option Addr} {oa oa1 oa2 oa' : List Addr} {bk bk' : Addr → Prop} {r : R} {v : V} {Q : VK} {lk : List Nat}
variable {a b c tg : Expr} {es : List Expr} {ea eb ec : E} {ies : Es} {pos : Pos}
theorem OwSub.bkk {is : List Nat} (s : OwSub lk is ow ow') (b : Addr) (h : bkS B ow' oa b) : bkS B ow oa b := by
  rcases h with h | ⟨i, h⟩ | h
  · exact .inl h
  · exact .inr (.inl ⟨i, s.sub i b h⟩)
  · exact .inr (.inr h)
theorem OwSub.refl {is : List Nat} : OwSub lk is ow ow := ⟨fun _ _ h => h, fun _ _ => rfl, fun _ _ => rfl⟩
theorem OwSub.trans {i : Nat} {is : List Nat} (s : OwSub lk [i] ow ow1) (t : OwSub lk is ow1 ow') : OwSub lk (i :: is) ow ow' :=
  ⟨fun j p h => s.sub j p (t.sub j p h), fun j h => (t.lck j h).trans (s.lck j h), fun j h => (t.off j fun z => h (List.mem_cons_of_mem _ z)).trans (s.off j fun z => h (List.mem_cons.mpr (.inl (List.mem_singleton.mp z))))⟩
theorem Reps.bkw {vs : List V} {ds : List D} (h : Reps T H bk oa vs ds) (w : ∀ b, bk' b → bk b) : Reps T H bk' oa vs ds := Reps.step (fun _ _ e _ => e) (fun b z => .inl (w b z)) (fun _ _ e => e) _ _ h
/-- a value in a slot -/
theorem SR.put {i : Nat} {d : D} (S : SR T B H0 en o σ H ow oa) (h : Rep T H (bkS B ow oa) oa v d) (hi : i < en.length) (hl : i ∉ lk) :
    ∃ ow', OwSub lk [i] ow ow' ∧ SR T B H0 (en.set i (.val ⟨d, .fz⟩)) o (σ.set i (some v)) H ow' oa := by
  have os : OwSub lk [i] ow (fun j => if j = i then none else ow j) := by
    refine ⟨fun j p h => ?_, fun j h => ?_, fun j h => ?_⟩
    · by_cases e : j = i
      · simp only [e, if_true] at h; cases h
      · simp only [e, if_false] at h; exact h
    · have e : j ≠ i := fun e => hl (e ▸ h)
      simp only [e, if_false]
    · have e : j ≠ i := fun e => h (List.mem_singleton.mpr e)
      simp only [e, if_false]
  have bw : ∀ b, bkS B (fun j => if j = i then none else ow j) oa b → bkS B ow oa b := fun b => os.bkk b
  refine ⟨_, os, ?_⟩
  have hs : i < σ.length := by rw [S.len]; exact hi
  refine ⟨by rw [List.length_set, List.length_set, S.len], S.amb, S.kept, S.obs.weak bw, fun j r e => ?_, fun j xs e => ?_, fun j xs e => ?_, fun j p e => ?_, fun j k p e e2 => S.inj j k p (os.sub _ _ e) (os.sub _ _ e2), fun j r a e hk hm e2 => ?_⟩
  · by_cases ej : i = j
    · subst ej
      rw [List.getElem?_set_self hi] at e
      cases e
      exact ⟨v, List.getElem?_set_self hs, Rep.top (Rep.bkw h bw), fun _ => Rep.bkw h bw⟩
    · rw [List.getElem?_set_ne ej] at e
      obtain ⟨w, h1, h2, h3⟩ := S.val j r e
      exact ⟨w, by rw [List.getElem?_set_ne ej]; exact h1, RepT.bkw h2 bw, fun z => Rep.bkw (h3 z) bw⟩
  · by_cases ej : i = j
    · subst ej
      rw [List.getElem?_set_self hi] at e
      cases e
    · rw [List.getElem?_set_ne ej] at e
      obtain ⟨p, vs, h1, h2, h3, h4⟩ := S.own j xs e
      exact ⟨p, vs, by show (if j = i then none else ow j) = some p; rw [if_neg fun z => ej z.symm]; exact h1, by rw [List.getElem?_set_ne ej]; exact h2, h3, Reps.bkw h4 bw⟩
  · by_cases ej : i = j
    · subst ej
      rw [List.getElem?_set_self hi] at e
      cases e
    · rw [List.getElem?_set_ne ej] at e
      obtain ⟨p, h1, h2, h3, h4⟩ := S.ownd j xs e
      exact ⟨p, by show (if j = i then none else ow j) = some p; rw [if_neg fun z => ej z.symm]; exact h1, by rw [List.getElem?_set_ne ej]; exact h2, h3, h4⟩
  · obtain ⟨h1, h2, h3, h4, s, h5, h6⟩ := S.ows j p (os.sub _ _ e)
    have ej : i ≠ j := fun z => by simp only [z, if_true] at e; cases e
    exact ⟨h1, h2, h3, h4, s, by rw [List.getElem?_set_ne ej]; exact h5, h6⟩
  · by_cases ej : i = j
    · subst ej
      rw [List.getElem?_set_self hi] at e
      cases e
      cases hk
    · rw [List.getElem?_set_ne ej] at e e2
      exact S.alt j r a e hk hm e2
theorem put1_val {i : Nat} (h : put1 lk i false r en = some en') : i < en.length ∧ i ∉ lk ∧ r.k ≠ .al ∧ en' = en.set i (.val ⟨r.d, .fz⟩) := by
  unfold put1 at h
  rw [Option.ite_none_left_eq_some] at h
  obtain ⟨h1, h⟩ := h
  simp only [Bool.false_eq_true, if_false] at h
  rw [Option.ite_none_left_eq_some] at h
  obtain ⟨h2, h⟩ := h
  simp only [Bool.or_eq_true, List.contains_iff_mem, decide_eq_true_eq, not_or] at h1
  exact ⟨by omega, h1.1, h2, (Option.some.inj h).symm⟩
theorem SR.putVals : ∀ {is : List Nat} {ds : List D} {vs : List V} {en : Env} {σ : St} {ow : Nat → Option Addr}, SR T B H0 en o σ H ow oa → Reps T H (bkS B ow oa) oa vs ds → _root_.B.putVals lk is ds en = some en' →
    vs.length = is.length ∧ ∃ ow', OwSub lk is ow ow' ∧ SR T B H0 en' o (setL σ is vs) H ow' oa
  | [], [], _, en, σ, ow, S, h, e => by
    cases h
    cases e
    exact ⟨rfl, ow, OwSub.refl, S⟩
  | i :: is, d :: ds, _, en, σ, ow, S, h, e => by
    cases h with
    | cons h1 h2 =>
      rename_i v vs
      have e' : (put1 lk i false ⟨d, .fz⟩ en).bind (_root_.B.putVals lk is ds) = some en' := e
      obtain ⟨en1, e1, e2⟩ := Option.bind_eq_some_iff.mp e'
      obtain ⟨q1, q2, q3, rfl⟩ := put1_val e1
      obtain ⟨ow1, os, S1⟩ := S.put h1 q1 q2
      obtain ⟨q4, ow2, os2, S2⟩ := SR.putVals S1 (Reps.bkw h2 fun b => os.bkk b) e2
      exact ⟨by simp [q4], ow2, os.trans os2, S2⟩
  | [], _ :: _, _, en, σ, ow, S, h, e => by cases e
  | _ :: _, [], _, en, σ, ow, S, h, e => by cases e
theorem gMany_of {Q : St → Hp → Prop} : ∀ {is : List Nat} {vs : List V} {σ : St}, vs.length = is.length → Q (setL σ is vs) H → gMany is vs σ H Q
  | [], [], _, _, h => ⟨rfl, h⟩
  | i :: is, v :: vs, σ, e, h => ⟨v, vs, rfl, gMany_of (is := is) (vs := vs) (by simpa using e) h⟩
  | [], _ :: _, _, e, _ => by simp at e
  | _ :: _, [], _, e, _ => by simp at e
theorem wipe_setL : ∀ {is : List Nat} {vs : List V} {σ : St} {ks : List Nat}, (∀ i ∈ is, i ∈ ks) → wipe (setL σ is vs) ks = wipe σ ks := by
  have one : ∀ (ks : List Nat) (σ : St) (i : Nat) (v : V), i ∈ ks → wipe (σ.set i (some v)) ks = wipe σ ks := by
    intro ks
    induction ks with
    | nil => intro σ i v h; cases h
    | cons k ks ih =>
      intro σ i v h
      show (wipe (σ.set i (some v)) ks).set k none = (wipe σ ks).set k none
      by_cases hm : i ∈ ks
      · rw [ih σ i v hm]
      · have e : i = k := (List.mem_cons.mp h).elim id fun z => absurd z hm
        subst e
        have : ∀ (ks : List Nat) (σ : St), i ∉ ks → wipe (σ.set i (some v)) ks = (wipe σ ks).set i (some v) := by
          intro ks
          induction ks with
          | nil => intro σ _; rfl
          | cons k ks ih =>
            intro σ h
            show (wipe (σ.set i (some v)) ks).set k none = ((wipe σ ks).set k none).set i (some v)
            rw [ih σ fun z => h (List.mem_cons_of_mem _ z)]
            exact List.set_comm _ _ fun z => h (List.mem_cons.mpr (.inl z))
        rw [this ks σ hm, List.set_set]
  intro is
  induction is with
  | nil => intro vs σ ks _; rfl
  | cons i is ih =>
    intro vs σ ks h
    cases vs with
    | nil => rfl
    | cons v vs =>
      show wipe (setL (σ.set i (some v)) is vs) ks = _
      rw [ih fun j hj => h j (List.mem_cons_of_mem _ hj), one ks σ i v (h i List.mem_cons_self)]
/-- a value at a target -/
theorem put_tg {tgt : Tg} {d : D} {Qs : St → Hp → Prop} (hK : T.K = X.K) (S : SR T B H0 en o σ H ow oa) (h : Rep T H (bkS B ow oa) oa v d) (e : putTg lk tgt d en = some en')
    (q : ∀ σ' ow', OwSub lk (tgIx tgt) ow ow' → SR T B H0 en' o σ' H ow' oa → (∀ ks, (∀ i ∈ tgIx tgt, i ∈ ks) → wipe σ' ks = wipe σ ks) → Qs σ' H) : gT X.K tgt v σ H Qs := by
  cases tgt with
  | one i =>
    obtain ⟨q1, q2, q3, rfl⟩ := put1_val e
    obtain ⟨ow', os, S'⟩ := S.put h q1 q2
    exact q _ ow' os S' fun ks hk => wipe_setL (is := [i]) (vs := [v]) hk
  | many is =>
    cases d with
    | tup xs =>
      cases h with
      | tup h1 h2 =>
        rename_i a vs
        have e' : putVals lk is xs en = some en' := e
        obtain ⟨q1, ow', os, S'⟩ := SR.putVals S h2 e'
        rw [hK] at h1
        exact ⟨a, vs, rfl, h1, q1, gMany_of q1 (q _ ow' os S' fun ks hk => wipe_setL hk)⟩
    | _ => cases e
theorem OwSub.run {is : List Nat} (s : OwSub lk is ow ow') : Run lk ow oa H ow' oa H :=
  ⟨fun _ _ e _ _ => e, fun _ _ e => e, fun _ h => .inl h, fun i p e => .inl ⟨i, s.sub i p e⟩, fun j h => s.lck j h, fun _ _ e _ => e, fun _ e => e⟩
end
end B
end

section
set_option Elab.async false
set_option linter.all false
set_option maxRecDepth 100000
set_option maxHeartbeats 1000000
/-! BP: list comprehensions. -/
namespace B
open PySem PySem.Spec PyProof.Rows L2
abbrev W0 : WX := fun _ _ _ _ => False
/-- a clause's test -/
def tIfs (T : Stat) (G : Sg) (e : E) : TT := fun σ H Q => ∃ B H0 en o ow oa, SR T B H0 en o σ H ow oa ∧ match optB e.isHole (e.ev G en o) o with
  | .ok b o' => ∀ H' oa', Ext T B ow oa o' H H' oa' → Q b H'
  | _ => False
section
variable {T : Stat} {G : Sg} {W : WX} {X : Cx} {B : Addr → Prop} {H0 H H1 H2 H' : Hp} {en en' : Env} {o o1 o2 o' : Objs} {σ σ' : St} {ow ow1 ow' : Nat → Option Addr} {oa oa1 oa2 oa' : List Addr} {bk bk' : Addr → Prop} {r : R} {v : V} {Q : VK} {lk : List Nat}
variable {a b c tg : Expr} {es : List Expr} {ea eb ec : E} {ies : Es} {pos : Pos}
theorem pts_weak {ifs : List Expr} {t t' : TT} (h : PTs X ifs t) (w : ∀ σ H Q, t' σ H Q → t σ H Q) : PTs X ifs t' := ⟨fun pins s σ H Q I q => h.run pins s σ H Q I (w σ H Q q)⟩
theorem ifs_none : PTs X [] (tIfs T G .hole) := pts_weak pts_nil fun σ H Q ⟨B, H0, en, o, ow, oa, S, h⟩ => h H oa (.refl S.obs)
theorem ifs_one (h : PT X c (tT T G W0 ec)) (hn : ec.isHole = false) : PTs X [c] (tIfs T G ec) := pts_weak (pts_one h) fun σ H Q ⟨B, H0, en, o, ow, oa, S, h⟩ => by
  refine ⟨B, H0, en, o, ow, oa, S, ?_⟩
  unfold optB at h
  rw [hn] at h
  simp only [Bool.false_eq_true, if_false] at h
  cases he : ec.ev G en o with
  | bad => rw [he] at h; exact h
  | exc => rw [he] at h; exact h.elim
  | ok r o1 =>
    rw [he] at h
    intro v H' oa' E1 R1
    cases hd : r.d with
    | bl k =>
      have h' : (match (match r.d with | .bl b => Rs.ok b o1 | _ => .bad) with
        | .ok b o' => ∀ H' oa', Ext T B ow oa o' H H' oa' → Q b H'
        | _ => False) := h
      rw [hd] at h'
      have t := R1.top (S.ext E1)
      rw [hd] at t
      cases t
      exact ⟨k, rfl, h' _ _ E1⟩
    | _ =>
      have h' : (match (match r.d with | .bl b => Rs.ok b o1 | _ => .bad) with
        | .ok b o' => ∀ H' oa', Ext T B ow oa o' H H' oa' → Q b H'
        | _ => False) := h
      rw [hd] at h'
      exact h'.elim
theorem Prim.fz {d : D} (P : Prim T (bkS B ow oa) oa H ⟨d, .fz⟩ v H') (O : Obs T H (bkS B ow oa) oa o) : Ext T B ow oa o H H' oa ∧ Rep T H' (bkS B ow oa) oa v d := by
  rcases P with ⟨rfl, P⟩ | ⟨p, xs, vs, hd, rfl, hp, rfl, P⟩
  · exact ⟨.refl O, P⟩
  · refine ⟨.upd O hp, ?_⟩
    have hd : d = .tup xs := hd
    rw [hd]
    exact .tup (.inl (.inl upd_same)) (Reps.step (fun b w e _ => upd_keep hp b w e) (fun b z => .inl z) (fun _ _ e => e) _ _ P)
theorem off_all (lk : List Nat) : ∃ M, ∀ i ∈ lk, i < M := by
  induction lk with
  | nil => exact ⟨0, fun i h => by cases h⟩
  | cons k ks ih =>
    obtain ⟨M, h⟩ := ih
    refine ⟨M + k + 1, fun i hi => ?_⟩
    rcases List.mem_cons.mp hi with rfl | hi
    · omega
    · have := h i hi
      omega
/-- what is blocked may be changed -/
theorem SR.wr {p : Addr} {u : HO} (S : SR T B H0 en o σ H ow oa) (hB : B p) (h0 : H0 p = none) (hu : mutO u = true) : SR T B H0 en o σ (upd H p u) ow oa := by
  obtain ⟨⟨w0, hw, mw⟩, np⟩ := S.amb p hB
  have ne : ∀ b w, H b = some w → b ≠ p → upd H p u b = some w := fun b w e h => by rw [upd_ne h]; exact e
  have kk : ∀ b w, H b = some w → (bkS B ow oa b → mutO w = false) → upd H p u b = some w := fun b w e h => ne b w e fun z => by
    subst z
    rw [hw] at e
    cases e
    rw [h (.inl hB)] at mw
    cases mw
  have rep : ∀ {v d}, Rep T H (bkS B ow oa) oa v d → Rep T (upd H p u) (bkS B ow oa) oa v d := fun h => Rep.step kk (fun _ z => .inl z) (fun _ _ e => e) _ _ h
  have reps : ∀ {v d}, Reps T H (bkS B ow oa) oa v d → Reps T (upd H p u) (bkS B ow oa) oa v d := fun h => Reps.step kk (fun _ z => .inl z) (fun _ _ e => e) _ _ h
  refine ⟨S.len, fun b hb => ?_, fun b w e hb => ne b w (S.kept b w e hb) fun z => (by rw [z, h0] at e; cases e), ⟨S.obs.len, S.obs.nod, fun n fs e => ?_⟩, fun i r e => ?_, fun i xs e => ?_, fun i kvs e => ?_, fun i q e => ?_, S.inj, S.alt⟩
  · by_cases z : b = p
    · rw [z]; exact ⟨⟨u, upd_same, hu⟩, np⟩
    · obtain ⟨⟨w, e, m⟩, n⟩ := S.amb b hb
      exact ⟨⟨w, ne b w e z, m⟩, n⟩
  · obtain ⟨a, dx, vs, h1, h2, h3, h4⟩ := S.obs.there n fs e
    exact ⟨a, dx, vs, h1, ne a _ h2 fun z => np (z ▸ List.mem_of_getElem? h1), h3, reps h4⟩
  · obtain ⟨v, h1, h2, h3⟩ := S.val i r e
    refine ⟨v, h1, ?_, fun z => rep (h3 z)⟩
    by_cases hk : r.k = .al
    · cases hd : r.d <;> rw [hd] at h2
      case lst xs =>
        obtain ⟨a, vs, rfl, h4, h5⟩ := h2
        exact ⟨a, vs, rfl, ne _ _ h4 fun z => S.alt i r a e hk (by rw [hd]; rfl) h1 (by rw [z]; exact h0), reps h5⟩
      case dct kvs =>
        obtain ⟨a, rfl, h4, h5⟩ := h2
        exact ⟨a, rfl, ne _ _ h4 fun z => S.alt i r a e hk (by rw [hd]; rfl) h1 (by rw [z]; exact h0), h5⟩
      all_goals exact rep h2
    · exact Rep.top (rep (h3 hk))
  · obtain ⟨q, vs, h1, h2, h3, h4⟩ := S.own i xs e
    exact ⟨q, vs, h1, h2, ne _ _ h3 fun z => (S.ows i q h1).2.1 (z ▸ hB), reps h4⟩
  · obtain ⟨q, h1, h2, h3, h4⟩ := S.ownd i kvs e
    exact ⟨q, h1, h2, ne _ _ h3 fun z => (S.ows i q h1).2.1 (z ▸ hB), h4⟩
  · obtain ⟨h1, h2, h3, ⟨w, h4, h5⟩, h6⟩ := S.ows i q e
    exact ⟨h1, h2, h3, ⟨w, ne _ _ h4 fun z => h2 (z ▸ hB), h5⟩, h6⟩
theorem wipeTg_get (tgt : Tg) (i : Nat) : i ∉ tgIx tgt → (wipeTg tgt en)[i]? = en[i]? := by
  cases tgt with
  | one j =>
    intro h
    show (en.set j .none)[i]? = _
    rw [List.getElem?_set_ne fun z => h (List.mem_singleton.mpr z.symm)]
  | many is =>
    show i ∉ is → (is.foldl (fun e i => e.set i .none) en)[i]? = _
    intro h
    induction is generalizing en with
    | nil => rfl
    | cons k ks ih =>
      rw [List.foldl_cons, ih fun z => h (List.mem_cons_of_mem _ z), List.getElem?_set_ne fun z => h (List.mem_cons.mpr (.inl z.symm))]
theorem wipeTg_in (tgt : Tg) (i : Nat) (s : Slot) : i ∈ tgIx tgt → (wipeTg tgt en)[i]? = some s → s = .none := by
  have self : ∀ (en : Env) j s, (en.set j Slot.none)[j]? = some s → s = .none := fun en j s h => by
    by_cases hj : j < en.length
    · rw [List.getElem?_set_self hj] at h; exact (Option.some.inj h).symm
    · rw [List.getElem?_eq_none (by simpa using hj)] at h; cases h
  cases tgt with
  | one j =>
    intro h e
    have h : i = j := List.mem_singleton.mp h
    subst h
    exact self _ _ _ e
  | many is =>
    show i ∈ is → (is.foldl (fun e i => e.set i .none) en)[i]? = some s → _
    intro h
    induction is generalizing en with
    | nil => cases h
    | cons k ks ih =>
      rw [List.foldl_cons]
      intro e
      by_cases hk : i ∈ ks
      · exact ih hk e
      · rw [show (ks.foldl (fun e i => e.set i .none) (en.set k .none))[i]? = (en.set k .none)[i]? from wipeTg_get (.many ks) i hk] at e
        have : i = k := (List.mem_cons.mp h).elim id fun z => absurd z hk
        subst this
        exact self _ _ _ e
theorem wipeTg_len (tgt : Tg) : (wipeTg tgt en).length = en.length := by
  cases tgt with
  | one j => exact List.length_set
  | many is =>
    show (is.foldl (fun e i => e.set i .none) en).length = _
    induction is generalizing en with
    | nil => rfl
    | cons k ks ih => rw [List.foldl_cons, ih, List.length_set]
theorem wipe_get {vs : List Nat} {i : Nat} (h : i ∉ vs) : (wipe σ vs)[i]? = σ[i]? := by
  induction vs with
  | nil => rfl
  | cons k ks ih =>
    show ((wipe σ ks).set k none)[i]? = _
    rw [List.getElem?_set_ne fun z => h (List.mem_cons.mpr (.inl z.symm)), ih fun z => h (List.mem_cons_of_mem _ z)]
theorem wipe_idem {vs : List Nat} : wipe (wipe σ vs) vs = wipe σ vs := by
  apply List.ext_getElem?
  intro i
  by_cases h : i ∈ vs
  · have : ∀ (σ : St) (vs : List Nat), i ∈ vs → (wipe σ vs)[i]? = if i < σ.length then some none else none := by
      intro σ vs
      induction vs with
      | nil => intro h; cases h
      | cons k ks ih =>
        intro h
        show ((wipe σ ks).set k none)[i]? = _
        by_cases e : k = i
        · subst e
          by_cases hk : k < σ.length
          · rw [List.getElem?_set_self (by rw [wipe_length]; exact hk), if_pos hk]
          · rw [List.getElem?_eq_none (by rw [List.length_set, wipe_length]; omega), if_neg hk]
        · rw [List.getElem?_set_ne e, ih ((List.mem_cons.mp h).elim (fun z => absurd z.symm e) id)]
    rw [this _ _ h, this _ _ h, wipe_length]
  · rw [wipe_get h]
theorem SR.wiped {tgt : Tg} {vs : List Nat} (S : SR T B H0 en o σ H ow oa) (hf : tgFree tgt en = true) (hv : ∀ i, i ∈ vs ↔ i ∈ tgIx tgt) : SR T B H0 (wipeTg tgt en) o (wipe σ vs) H ow oa := by
  have off : ∀ {i s}, (wipeTg tgt en)[i]? = some s → s ≠ .none → i ∉ tgIx tgt := fun e h z => h (wipeTg_in tgt _ _ z e)
  refine ⟨by rw [wipe_length, wipeTg_len, S.len], S.amb, S.kept, S.obs, fun i r e => ?_, fun i xs e => ?_, fun i kvs e => ?_, fun i p e => ?_, S.inj, fun i r a e hk hm e2 => ?_⟩
  · have hi := off e (by simp)
    rw [wipeTg_get _ _ hi] at e
    rw [wipe_get fun z => hi ((hv i).mp z)]
    exact S.val i r e
  · have hi := off e (by simp)
    rw [wipeTg_get _ _ hi] at e
    rw [wipe_get fun z => hi ((hv i).mp z)]
    exact S.own i xs e
  · have hi := off e (by simp)
    rw [wipeTg_get _ _ hi] at e
    rw [wipe_get fun z => hi ((hv i).mp z)]
    exact S.ownd i kvs e
  · obtain ⟨h1, h2, h3, h4, s, h5, h6, h7⟩ := S.ows i p e
    have hi : i ∉ tgIx tgt := fun z => by
      have := List.all_eq_true.mp hf i z
      rw [h5] at this
      cases s <;> simp_all
    exact ⟨h1, h2, h3, h4, s, by rw [wipeTg_get _ _ hi]; exact h5, h6, h7⟩
  · have hi := off e (by simp)
    rw [wipeTg_get _ _ hi] at e
    rw [wipe_get fun z => hi ((hv i).mp z)] at e2
    exact S.alt i r a e hk hm e2
theorem Ext.cast (E1 : Ext T B ow oa o1 H H1 oa1) {B' : Addr → Prop} {ow' : Nat → Option Addr} (O : Obs T H1 (bkS B' ow' oa1) oa1 o1) : Ext T B' ow' oa o1 H H1 oa1 := ⟨E1.keep, E1.pre, E1.new, O⟩
theorem Ext.wr {p : Addr} {u : HO} (E1 : Ext T B ow oa o1 H H1 oa1) (hp : H p = none) (O : Obs T (L2.upd H1 p u) (bkS B ow oa1) oa1 o1) : Ext T B ow oa o1 H (L2.upd H1 p u) oa1 :=
  ⟨fun b w e hb => by rw [upd_ne (ne_of_none e hp)]; exact E1.keep b w e hb, E1.pre, E1.new, O⟩
theorem bk1 {p : Addr} {b : Addr} : bkS (fun b => B b ∨ b = p) ow oa b ↔ (bkS B ow oa b ∨ b = p) := by
  unfold bkS
  constructor
  · rintro ((z | z) | z | z)
    · exact .inl (.inl z)
    · exact .inr z
    · exact .inl (.inr (.inl z))
    · exact .inl (.inr (.inr z))
  · rintro ((z | z | z) | z)
    · exact .inl (.inl z)
    · exact .inr (.inl z)
    · exact .inr (.inr z)
    · exact .inl (.inr z)
/-- the block's turns -/
theorem lc_of {it : It} {tgt : Tg} {ee ec : E} {vs : List Nat} (hK : T.K = X.K) (hv : ∀ i, i ∈ vs ↔ i ∈ tgIx tgt) (h : tE T G W (.lc ee tgt it ec) σ H Q) : tLc (tI T G W it) (gT X.K tgt) (tIfs T G ec) (tE T G W0 ee) vs σ H Q := by
  obtain ⟨B, H0, en, o, ow, oa, S, h⟩ := h
  refine ⟨B, H0, en, o, ow, oa, S, ?_⟩
  generalize hf : (fun (d : D) (o : Objs) => match putTg [] tgt d (wipeTg tgt en) with
        | none => Rs.bad
        | some en => ((optB ec.isHole (ec.ev G en o) o).bind fun k o => if k then (ee.ev G en o).bind fun r o => if r.k ≠ Kd.al then Rs.ok (some r.d) o else .bad else Rs.ok none o).noExc) = f
  have h' : Good T B ow W σ oa H ((it.ev G en o).bind fun x o => if (decide (x.1.length ≤ bigL) && tgFree tgt en) = true then (lcGo f x.1 [] o).bind fun ds o => .ok ⟨.lst ds, .ex⟩ o else .bad) Q := by
    rw [← hf]
    exact h
  clear h
  cases hi : it.ev G en o with
  | bad => rw [hi] at h'; exact h'
  | exc c o1 => rw [hi] at h'; exact h'
  | ok y o1 =>
    rw [hi] at h'
    have h1 : Good T B ow W σ oa H (if (decide (y.1.length ≤ bigL) && tgFree tgt en) = true then (lcGo f y.1 [] o1).bind fun ds o => .ok ⟨.lst ds, .ex⟩ o else .bad) Q := h'
    clear h'
    obtain ⟨hc, h1⟩ := h1.ite
    rw [Bool.and_eq_true, decide_eq_true_eq] at hc
    obtain ⟨hlen, hfree⟩ := hc
    intro J H1 oa1 E1 wk p hp
    have S1 := S.ext E1
    have np : p ∉ oa1 := fun z => by
      obtain ⟨dx, ws, q⟩ := S1.obs.ins z
      rw [q] at hp; cases hp
    have h0 : H0 p = none := by
      cases e : H0 p with
      | none => rfl
      | some u =>
        have nq : p ∉ oa1 := np
        have := S1.kept p u e nq
        rw [this] at hp; cases hp
    have SA := (S1.aside (Ext.upd S1.obs hp) hp ⟨.lst [], upd_same, rfl⟩ np (S1.obs.upd hp)).wiped hfree hv
    have h2 := Good.mono h1 S.obs E1
    clear h1
    refine ⟨fun i m H => m = y.1.length - i ∧ i ≤ y.1.length ∧ ∃ o oa' acc ws, Ext T B ow oa1 o H1 H oa' ∧ SR T (fun b => B b ∨ b = p) H0 (wipeTg tgt en) o (wipe σ vs) H ow oa' ∧ H p = some (.lst ws) ∧ Reps T H (bkS (fun b => B b ∨ b = p) ow oa') oa' ws acc ∧ acc.length ≤ i ∧
      Good T B ow W σ oa1 H1 ((lcGo f (y.1.drop i) acc o).bind fun ds o => .ok ⟨.lst ds, .ex⟩ o) Q, ⟨y.1.length, by simp, Nat.zero_le _, o1, oa1, [], [], Ext.upd S1.obs hp, SA, upd_same, .nil, Nat.le_refl _, h2⟩, ?_⟩
    rintro i m H ⟨rfl, hi, o2, oa2, acc, ws, E2, S2, hD, ra, ha, h3⟩
    have Rn : ∀ M, (∀ j, j ∈ y.2 → j < M) → en.length ≤ M → Run y.2 ow oa1 H1 (fun j => if j = M then some p else ow j) oa2 H := fun M hM hM2 => by
      have R0 : Run y.2 ow oa1 H1 ow oa2 H := Ext.run E2 S1.obs
      refine ⟨R0.keep, R0.pre, R0.new, fun j q e => ?_, fun j hj => ?_, R0.mt0, R0.dom⟩
      · by_cases ej : j = M
        · simp only [ej, if_true] at e
          cases e
          exact .inr hp
        · simp only [ej, if_false] at e
          exact .inl ⟨j, e⟩
      · have := hM j hj
        have ej : j ≠ M := by omega
        simp only [ej, if_false]
    obtain ⟨M0, hM0⟩ := off_all y.2
    have Rn := Rn (M0 + en.length) (fun j hj => by have := hM0 j hj; omega) (by omega)
    have owM : ow (M0 + en.length) = none := by
      cases e : ow (M0 + en.length) with
      | none => rfl
      | some q =>
        obtain ⟨_, _, _, _, s, h5, _⟩ := S.ows _ q e
        rw [List.getElem?_eq_none (by omega)] at h5
        cases h5
    have bkM : ∀ b, bkS (fun b => B b ∨ b = p) ow oa2 b → bkS B (fun j => if j = M0 + en.length then some p else ow j) oa2 b := fun b z => by
      rcases z with (z | z) | ⟨j, z⟩ | z
      · exact .inl z
      · exact .inr (.inl ⟨M0 + en.length, by simp only [if_true, z]⟩)
      · have ej : j ≠ M0 + en.length := fun e => by rw [e, owM] at z; cases z
        exact .inr (.inl ⟨j, by simp only [ej, if_false]; exact z⟩)
      · exact .inr (.inr z)
    obtain ⟨w1, w2⟩ := wk _ _ _ Rn i
    by_cases hlt : i < y.1.length
    · refine .inr ?_
      obtain ⟨go, w1⟩ := w1 y.1[i] (List.getElem?_eq_getElem hlt)
      refine ⟨go, fun H' => i + 1 ≤ y.1.length ∧ ∃ o oa' acc ws, Ext T B ow oa1 o H1 H' oa' ∧ SR T (fun b => B b ∨ b = p) H0 (wipeTg tgt en) o (wipe σ vs) H' ow oa' ∧ H' p = some (.lst ws) ∧ Reps T H' (bkS (fun b => B b ∨ b = p) ow oa') oa' ws acc ∧ acc.length ≤ i + 1 ∧
        Good T B ow W σ oa1 H1 ((lcGo f (y.1.drop (i + 1)) acc o).bind fun ds o => .ok ⟨.lst ds, .ex⟩ o) Q, fun H' q => ⟨y.1.length - (i + 1), by omega, rfl, q⟩, fun x H' yl => ?_⟩
      have P0 : Prim T (bkS (fun b => B b ∨ b = p) ow oa2) oa2 H ⟨y.1[i], .fz⟩ x H' := by
        rcases w1 x H' yl with ⟨e, q⟩ | ⟨t, xs, us, e1, e2, e3, e4, q⟩
        · exact .inl ⟨e, Rep.bkw q bkM⟩
        · exact .inr ⟨t, xs, us, e1, e2, e3, e4, Reps.bkw q bkM⟩
      obtain ⟨E3, rx⟩ := P0.fz S2.obs
      have S3 := S2.ext E3
      have hdrop : y.1.drop i = y.1[i] :: y.1.drop (i + 1) := List.drop_eq_getElem_cons hlt
      rw [hdrop] at h3
      generalize y.1[i] = d at *
      have h4 : Good T B ow W σ oa1 H1 (((f d o2).bind fun x o => match x with
        | some z => lcGo f (y.1.drop (i + 1)) (acc ++ [z]) o
        | none => lcGo f (y.1.drop (i + 1)) acc o).bind fun ds o => .ok ⟨.lst ds, .ex⟩ o) Q := h3
      clear h3
      have fd : f d o2 = match putTg [] tgt d (wipeTg tgt en) with
        | none => Rs.bad
        | some en => ((optB ec.isHole (ec.ev G en o2) o2).bind fun k o => if k then (ee.ev G en o).bind fun r o => if r.k ≠ Kd.al then Rs.ok (some r.d) o else .bad else Rs.ok none o).noExc := by rw [← hf]
      cases hput : putTg [] tgt d (wipeTg tgt en) with
      | none =>
        rw [hput] at fd
        rw [fd] at h4
        exact h4.elim
      | some en2 =>
        rw [hput] at fd
        have fd : f d o2 = ((optB ec.isHole (ec.ev G en2 o2) o2).bind fun k o => if k then (ee.ev G en2 o).bind fun r o => if r.k ≠ Kd.al then Rs.ok (some r.d) o else .bad else Rs.ok none o).noExc := fd
        refine put_tg hK S3 rx hput fun σ2 ow2 os S4 hw => ?_
        have e_ow : ow2 = ow := by
          funext j
          by_cases hj : j ∈ tgIx tgt
          · have q : ow j = none := by
              cases e : ow j with
              | none => rfl
              | some q =>
                obtain ⟨_, _, _, _, s, h5, _, h6⟩ := S3.ows _ q e
                exact absurd (wipeTg_in tgt j s hj h5) h6
            rw [q]
            cases e : ow2 j with
            | none => rfl
            | some z =>
              have := os.sub j z e
              rw [q] at this; cases this
          · exact os.off j hj
        subst e_ow
        refine ⟨?_, ?_⟩
        · rw [hw vs fun j hj => (hv j).mpr hj, wipe_idem]
        refine ⟨_, H0, en2, o2, ow2, oa2, S4, ?_⟩
        cases hb : optB ec.isHole (ec.ev G en2 o2) o2 with
        | bad => rw [hb] at fd; rw [fd] at h4; exact h4.elim
        | exc => rw [hb] at fd; rw [fd] at h4; exact h4.elim
        | ok k o3 =>
          rw [hb] at fd
          intro H3 oa3 E4
          have S5 := S4.ext E4
          have S5w := (S3.ext E4)
          have E5 : Ext T (fun b => B b ∨ b = p) ow2 oa2 o3 H H3 oa3 := Ext.trans E3 S2.obs E4
          have hD3 : H3 p = some (.lst ws) := E5.keep _ _ hD (S2.amb p (.inr rfl)).2
          have ra3 := E5.reps S2.obs ra
          have E6 : Ext T B ow2 oa1 o3 H1 H3 oa3 := Ext.trans E2 S1.obs (E5.cast (S5.obs.weak fun b z => bk1.mpr (.inl z)))
          cases k with
          | false =>
            have fd : f d o2 = .ok none o3 := fd
            rw [fd] at h4
            exact ⟨by omega, o3, oa3, acc, ws, E6, S5w, hD3, ra3, by omega, h4⟩
          | true =>
            simp only [if_true]
            refine ⟨_, H0, en2, o3, ow2, oa3, S5, ?_⟩
            have fd : f d o2 = ((ee.ev G en2 o3).bind fun r o => if r.k ≠ Kd.al then Rs.ok (some r.d) o else .bad).noExc := fd
            cases he : ee.ev G en2 o3 with
            | bad => rw [he] at fd; rw [fd] at h4; exact h4.elim
            | exc => rw [he] at fd; rw [fd] at h4; exact h4.elim
            | ok r o4 =>
              rw [he] at fd
              have fd : f d o2 = (if r.k ≠ .al then Rs.ok (some r.d) o4 else .bad).noExc := fd
              by_cases hk : r.k ≠ .al
              · rw [if_pos hk] at fd
                have fd : f d o2 = Rs.ok (some r.d) o4 := fd
                rw [fd] at h4
                intro z H4 oa4 E7 R7
                have S6 := S5.ext E7
                have rz := R7.fz S6 S5.owt S5.Bt hk
                have hD4 : H4 p = some (.lst ws) := E7.keep _ _ hD3 (S5.amb p (.inr rfl)).2
                have ra4 := E7.reps S5.obs ra3
                have S6w := (S5w.ext E7).wr (u := .lst (ws ++ [z])) (.inr rfl) h0 rfl
                have mk : ∀ b w, H4 b = some w → (bkS (fun b => B b ∨ b = p) ow2 oa4 b → mutO w = false) → upd H4 p (.lst (ws ++ [z])) b = some w := fun b w e q => by
                  by_cases hb : b = p
                  · subst hb
                    rw [hD4] at e
                    cases e
                    have := q (.inl (.inr rfl))
                    cases this
                  · rw [upd_ne hb]; exact e
                refine ⟨ws, hD4, ?_, by omega, o4, oa4, acc ++ [r.d], ws ++ [z], ?_, S6w, upd_same, ?_, (by rw [List.length_append, List.length_singleton]; omega), h4⟩
                · have : ws.length ≤ i := by rw [ra.len]; exact ha
                  show ws.length < 2 ^ 24
                  unfold bigL at hlen
                  omega
                · refine Ext.wr ?_ hp (S6w.obs.weak fun b z => bk1.mpr (.inl z))
                  exact Ext.trans E6 S1.obs (E7.cast (S6.obs.weak fun b z => bk1.mpr (.inl z)))
                · exact (Reps.step mk (fun _ z => .inl z) (fun _ _ e => e) _ _ ra4).app (.cons (Rep.step mk (fun _ z => .inl z) (fun _ _ e => e) _ _ rz) .nil)
              · rw [if_neg hk] at fd
                rw [fd] at h4
                exact h4.elim
    · refine .inl ⟨w2 (by omega), ?_⟩
      rw [List.drop_eq_nil_of_le (by omega)] at h3
      have h4 : Good T B ow W σ oa1 H1 (.ok ⟨.lst acc, .ex⟩ o2) Q := h3
      refine h4 _ H oa2 E2 ?_
      show ∃ q, V.ref p = .ref q ∧ H1 q = none ∧ q ∉ oa2 ∧ (∃ vs, H q = some (.lst vs) ∧ Reps T H (fun b => bkS B ow oa2 b ∨ b = q) oa2 vs acc) ∧ Obs T H (fun b => bkS B ow oa2 b ∨ b = q) oa2 o2
      exact ⟨p, rfl, hp, (S2.amb p (.inr rfl)).2, ⟨ws, hD, Reps.bkw ra fun b z => bk1.mpr z⟩, S2.obs.weak fun b z => bk1.mpr z⟩
end
end B
end

section
set_option Elab.async false
set_option linter.all false
set_option maxRecDepth 100000
set_option maxHeartbeats 1000000
/-! BQ: the state behind a store; what a statement's run promises. -/
namespace B
open PySem PySem.Spec PyProof.Rows L2
/-- the objects since the def's start -/
structure Ent (H0 : Hp) (oa0 oa : List Addr) : Prop where
  pre : ∀ (n : Nat) a, oa0[n]? = some a → oa[n]? = some a
  new : ∀ b, b ∈ oa → b ∈ oa0 ∨ H0 b = none
def GoodS (T : Stat) (B : Addr → Prop) (H0 : Hp) (oa0 : List Addr) (W : WX) (lk : List Nat) (ow : Nat → Option Addr) (oa : List Addr) (H : Hp) (D : Ends) (x : Out) : Prop := match x with
  | .next en' o' => ∀ σ' H' ow' oa', SR T B H0 en' o' σ' H' ow' oa' → Run lk ow oa H ow' oa' H' → Ent H0 oa0 oa' → D.nx σ' H'
  | .brk en' o' => ∀ σ' H' ow' oa', SR T B H0 en' o' σ' H' ow' oa' → Run lk ow oa H ow' oa' H' → Ent H0 oa0 oa' → D.bk σ' H'
  | .cnt en' o' => ∀ σ' H' ow' oa', SR T B H0 en' o' σ' H' ow' oa' → Run lk ow oa H ow' oa' H' → Ent H0 oa0 oa' → D.ct σ' H'
  | .ret r o' => ∀ v H' oa', Ext T B ow0 oa0 o' H0 H' oa' → RepR T B ow0 oa' o' H0 H' r v → D.rt v H'
  | .exc c o' => ∀ σ' H' oa', Ext T B ow0 oa0 o' H0 H' oa' → W (T.ex c) none σ' H'
  | .bad => False
def tSt (T : Stat) (G : Sg) (W : WX) (lk : List Nat) (s : S) : TS := fun D σ H => ∃ B H0 oa0 en o ow oa, SR T B H0 en o σ H ow oa ∧ Ent H0 oa0 oa ∧ GoodS T B H0 oa0 W lk ow oa H D (s.ev G lk en o)
def tSs (T : Stat) (G : Sg) (W : WX) (lk : List Nat) (s : Ss) : TS := fun D σ H => ∃ B H0 oa0 en o ow oa, SR T B H0 en o σ H ow oa ∧ Ent H0 oa0 oa ∧ GoodS T B H0 oa0 W lk ow oa H D (s.ev G lk en o)
section
variable {T : Stat} {G : Sg} {W : WX} {X : Cx} {B : Addr → Prop} {H0 H H1 H2 H' : Hp} {en en' : Env} {o o1 o2 o' : Objs} {σ σ' : St} {ow ow1 ow' : Nat → Option Addr} {oa oa0 oa1 oa2 oa' : List Addr} {bk bk' : Addr → Prop} {r : R} {v : V} {Q : VK} {lk : List Nat} {D : Ends}
variable {a b c tg : Expr} {es : List Expr} {ea eb ec : E} {ies : Es} {pos : Pos}
theorem Ent.ext (E0 : Ent H0 oa0 oa) (S : SR T B H0 en o σ H ow oa) (E1 : Ext T B ow oa o1 H H1 oa1) : Ent H0 oa0 oa1 where
  pre := fun n a e => E1.pre n a (E0.pre n a e)
  new := fun b hb => by
    rcases E1.new b hb with h | h
    · exact E0.new b h
    · refine .inr ?_
      cases e : H0 b with
      | none => rfl
      | some u =>
        by_cases hb : b ∈ oa
        · obtain ⟨dx, vs, q⟩ := S.obs.ins hb
          rw [q] at h; cases h
        · rw [S.kept b u e hb] at h; cases h
/-- seen from the def's start -/
theorem Ent.out (E0 : Ent H0 oa0 oa) (S : SR T B H0 en o σ H ow oa) : Ext T B ow0 oa0 o H0 H oa where
  keep := fun b u e hb => S.kept b u e fun z => (E0.new b z).elim hb (by rw [e]; simp)
  pre := E0.pre
  new := E0.new
  obs := S.obs.weak fun b z => by
    rcases z with z | ⟨i, z⟩ | z
    · exact .inl z
    · cases z
    · exact .inr (.inr z)
theorem bk0 {b : Addr} (z : bkS B ow0 oa b) : bkS B ow oa b := by
  rcases z with z | ⟨i, z⟩ | z
  · exact .inl z
  · cases z
  · exact .inr (.inr z)
theorem Run.trans (R1 : Run lk ow oa H ow1 oa1 H1) (inj : ∀ i j p, ow1 i = some p → ow1 j = some p → i = j) (R2 : Run lk ow1 oa1 H1 ow' oa' H') : Run lk ow oa H ow' oa' H' where
  keep := fun b u e h1 h2 => R2.keep b u (R1.keep b u e h1 h2) (fun z => (R1.new b z).elim h1 (by rw [e]; simp)) fun i hi => by
    rcases R1.own i b hi with ⟨j, hj⟩ | z
    · have hl := h2 j hj
      have := R1.lck j hl
      rw [hj] at this
      rw [inj i j b hi this]
      exact hl
    · rw [e] at z; cases z
  pre := fun n a e => R2.pre n a (R1.pre n a e)
  new := fun b hb => by
    rcases R2.new b hb with h | h
    · exact R1.new b h
    · exact .inr (R1.dom b h)
  own := fun i p e => by
    rcases R2.own i p e with ⟨j, h⟩ | h
    · exact R1.own j p h
    · exact .inr (R1.dom p h)
  lck := fun i hi => (R2.lck i hi).trans (R1.lck i hi)
  mt0 := fun b u e m => R2.mt0 b u (R1.mt0 b u e m) m
  dom := fun b h => R1.dom b (R2.dom b h)
theorem Run.less {lk' : List Nat} (R : Run lk' ow oa H ow' oa' H') (h : ∀ i, i ∈ lk → i ∈ lk') : Run lk ow oa H ow' oa' H' :=
  ⟨fun b u e h1 h2 => R.keep b u e h1 fun i hi => h i (h2 i hi), R.pre, R.new, R.own, fun i hi => R.lck i (h i hi), R.mt0, R.dom⟩
theorem GoodS.mono {x : Out} (h : GoodS T B H0 oa0 W lk ow oa H D x) (R1 : Run lk ow oa H ow1 oa1 H1) (inj : ∀ i j p, ow1 i = some p → ow1 j = some p → i = j) : GoodS T B H0 oa0 W lk ow1 oa1 H1 D x := by
  cases x with
  | next en' o' => exact fun σ' H' ow' oa' S' R2 => h σ' H' ow' oa' S' (R1.trans inj R2)
  | brk en' o' => exact fun σ' H' ow' oa' S' R2 => h σ' H' ow' oa' S' (R1.trans inj R2)
  | cnt en' o' => exact fun σ' H' ow' oa' S' R2 => h σ' H' ow' oa' S' (R1.trans inj R2)
  | ret r o' => exact h
  | exc c o' => exact h
  | bad => exact h
/-- an expression, then the rest of a statement -/
theorem good_s {e : E} {f : R → Objs → Out} {Rk : VK} (S : SR T B H0 en o σ H ow oa) (E0 : Ent H0 oa0 oa) (h : GoodS T B H0 oa0 W lk ow oa H D ((e.ev G en o).out f))
    (k : ∀ r o1 v H1 oa1, Ext T B ow oa o1 H H1 oa1 → RepR T B ow oa1 o1 H H1 r v → SR T B H0 en o1 σ H1 ow oa1 → Ent H0 oa0 oa1 → GoodS T B H0 oa0 W lk ow oa1 H1 D (f r o1) → Rk v H1) : tE T G W e σ H Rk := by
  refine ⟨B, H0, en, o, ow, oa, S, ?_⟩
  cases he : e.ev G en o with
  | ok r o1 =>
    rw [he] at h
    exact fun v H1 oa1 E1 R1 => k r o1 v H1 oa1 E1 R1 (S.ext E1) (E0.ext S E1) (GoodS.mono h (Ext.run E1 S.obs) S.inj)
  | exc c o1 =>
    rw [he] at h
    exact fun H' oa' E1 => h σ H' oa' ((E0.ext S E1).out (S.ext E1))
  | bad =>
    rw [he] at h
    exact h
/-- the same, through a list of them -/
theorem good_sl {e : Es} {f : List R → Objs → Out} {Rk : List V → Hp → Prop} (S : SR T B H0 en o σ H ow oa) (E0 : Ent H0 oa0 oa) (h : GoodS T B H0 oa0 W lk ow oa H D ((e.ev G en o).out f))
    (k : ∀ rs o1 vs H1 oa1 xs, Ext T B ow oa o1 H H1 oa1 → RRs T H1 (bkX (bkS B ow oa1) xs) oa1 rs vs xs → xs.Nodup → (∀ p ∈ xs, H p = none ∧ p ∉ oa1) → Obs T H1 (bkX (bkS B ow oa1) xs) oa1 o1 → Ent H0 oa0 oa1 → GoodS T B H0 oa0 W lk ow oa1 H1 D (f rs o1) → Rk vs H1) : tL T G W e σ H Rk := by
  refine ⟨B, H0, en, o, ow, oa, S, ?_⟩
  cases he : e.ev G en o with
  | ok rs o1 =>
    rw [he] at h
    exact fun vs H1 oa1 xs E1 R1 n f O => k rs o1 vs H1 oa1 xs E1 R1 n f O (E0.ext S E1) (GoodS.mono h (Ext.run E1 S.obs) S.inj)
  | exc c o1 =>
    rw [he] at h
    exact fun H' oa' E1 => h σ H' oa' ((E0.ext S E1).out (S.ext E1))
  | bad =>
    rw [he] at h
    exact h
/-- fewer are blocked -/
theorem SR.unb {B' : Addr → Prop} (S : SR T B H0 en o σ H ow oa) (w : ∀ b, B' b → B b) : SR T B' H0 en o σ H ow oa := by
  have bw : ∀ b, bkS B' ow oa b → bkS B ow oa b := fun b z => by
    rcases z with z | z | z
    · exact .inl (w b z)
    · exact .inr (.inl z)
    · exact .inr (.inr z)
  refine ⟨S.len, fun b h => S.amb b (w b h), S.kept, S.obs.weak bw, fun i r e => ?_, fun i xs e => ?_, S.ownd, fun i p e => ?_, S.inj, S.alt⟩
  · obtain ⟨v, h1, h2, h3⟩ := S.val i r e
    exact ⟨v, h1, RepT.bkw h2 bw, fun z => Rep.bkw (h3 z) bw⟩
  · obtain ⟨p, vs, h1, h2, h3, h4⟩ := S.own i xs e
    exact ⟨p, vs, h1, h2, h3, Reps.bkw h4 bw⟩
  · obtain ⟨h1, h2, h3⟩ := S.ows i p e
    exact ⟨h1, fun z => h2 (w p z), h3⟩
/-- fresh values set aside -/
theorem SR.asides (S : SR T B H0 en o σ H ow oa) (E1 : Ext T B ow oa o1 H H1 oa1) {xs : List Addr} (hp : ∀ p ∈ xs, H p = none ∧ p ∉ oa1) (hu : ∀ p ∈ xs, ∃ u, H1 p = some u ∧ mutO u = true) (O : Obs T H1 (bkX (bkS B ow oa1) xs) oa1 o1) :
    SR T (fun b => B b ∨ b ∈ xs) H0 en o1 σ H1 ow oa1 := by
  have S1 := S.ext E1
  have kb : ∀ b, bkS (fun b => B b ∨ b ∈ xs) ow oa1 b → bkS B ow oa b ∨ H b = none := fun b z => by
    rcases z with (z | z) | z | z
    · exact .inl (.inl z)
    · exact .inr (hp b z).1
    · exact .inl (.inr (.inl z))
    · exact (E1.new b z).elim (fun z => .inl (.inr (.inr z))) .inr
  have kk := E1.kp S.obs fun b z => (.inr (.inr z) : bkS B ow oa b)
  refine ⟨S1.len, fun b z => z.elim (S1.amb b) fun z => ⟨hu b z, (hp b z).2⟩, S1.kept, O.weak fun b z => ?_, fun i r e => ?_, fun i xs e => ?_, S1.ownd, fun i q e => ?_, S1.inj, S1.alt⟩
  · rcases z with (z | z) | z | z
    · exact .inl (.inl z)
    · exact .inr z
    · exact .inl (.inr (.inl z))
    · exact .inl (.inr (.inr z))
  · obtain ⟨v, h1, h2, h3⟩ := S.val i r e
    refine ⟨v, h1, ?_, fun z => Rep.step kk kb E1.pre _ _ (h3 z)⟩
    cases hd : r.d <;> rw [hd] at h2
    case lst ys =>
      obtain ⟨a, ws, rfl, h4, h5⟩ := h2
      exact ⟨a, ws, rfl, at_ext E1 S.obs h4 (fun _ _ _ => by simp), Reps.step kk kb E1.pre _ _ h5⟩
    case dct kvs =>
      obtain ⟨a, rfl, h4, h5⟩ := h2
      exact ⟨a, rfl, at_ext E1 S.obs h4 (fun _ _ _ => by simp), h5⟩
    all_goals exact Rep.step kk kb E1.pre _ _ h2
  · obtain ⟨q, vs, h1, h2, h3, h4⟩ := S.own i xs e
    exact ⟨q, vs, h1, h2, E1.keep _ _ h3 (S.ows i q h1).2.2.1, Reps.step kk kb E1.pre _ _ h4⟩
  · obtain ⟨h1, h2, h3, h4, h5⟩ := S1.ows i q e
    refine ⟨h1, fun z => z.elim h2 fun z => ?_, h3, h4, h5⟩
    exact S.owt i q e (hp q z).1
/-- a fresh thing becomes a slot's own -/
theorem SR.putOwn {B' : Addr → Prop} {i : Nat} {p : Addr} {s : Slot} (S : SR T B' H0 en o σ H ow oa) (hp : B' p) (w : ∀ b, B b → B' b) (nB : ¬ B p) (h0 : H0 p = none) (hi : i < en.length) (hl : i ∉ lk)
    (hs : match s with
      | .own xs => Fresh T H (bkS B' ow oa) oa p (.lst xs)
      | .ownd kvs => Fresh T H (bkS B' ow oa) oa p (.dct kvs)
      | _ => False) :
    ∃ ow', (∀ j q, ow' j = some q → ow j = some q ∨ q = p) ∧ (∀ j, j ∈ lk → ow' j = ow j) ∧ SR T B H0 (en.set i s) o (σ.set i (some (.ref p))) H ow' oa := by
  have bw : ∀ b, bkS B (fun j => if j = i then some p else ow j) oa b → bkS B' ow oa b := fun b z => by
    rcases z with z | ⟨j, z⟩ | z
    · exact .inl (w b z)
    · by_cases e : j = i
      · simp only [e, if_true] at z
        cases z
        exact .inl hp
      · simp only [e, if_false] at z
        exact .inr (.inl ⟨j, z⟩)
    · exact .inr (.inr z)
  have hσ : i < σ.length := by rw [S.len]; exact hi
  have mu : ∃ u, H p = some u ∧ mutO u = true := (S.amb p hp).1
  refine ⟨fun j => if j = i then some p else ow j, fun j q z => ?_, fun j hj => ?_, ?_⟩
  · by_cases e : j = i
    · simp only [e, if_true] at z
      exact .inr (Option.some.inj z).symm
    · simp only [e, if_false] at z
      exact .inl z
  · have e : j ≠ i := fun e => hl (e ▸ hj)
    simp only [e, if_false]
  refine ⟨by rw [List.length_set, List.length_set, S.len], fun b hb => S.amb b (w b hb), S.kept, S.obs.weak bw, fun j r e => ?_, fun j xs e => ?_, fun j xs e => ?_, fun j q e => ?_, fun j k q e e2 => ?_, fun j r a e hk hm e2 => ?_⟩
  · by_cases ej : i = j
    · subst ej
      rw [List.getElem?_set_self hi] at e
      cases e
      exact hs.elim
    · rw [List.getElem?_set_ne ej] at e
      obtain ⟨v, h1, h2, h3⟩ := S.val j r e
      exact ⟨v, by rw [List.getElem?_set_ne ej]; exact h1, RepT.bkw h2 bw, fun z => Rep.bkw (h3 z) bw⟩
  · by_cases ej : i = j
    · subst ej
      rw [List.getElem?_set_self hi] at e
      cases e
      obtain ⟨vs, h1, h2⟩ := hs
      exact ⟨p, vs, if_pos rfl, List.getElem?_set_self hσ, h1, Reps.bkw h2 fun b z => .inl (bw b z)⟩
    · rw [List.getElem?_set_ne ej] at e
      obtain ⟨q, vs, h1, h2, h3, h4⟩ := S.own j xs e
      exact ⟨q, vs, by show (if j = i then some p else ow j) = some q; rw [if_neg fun z => ej z.symm]; exact h1, by rw [List.getElem?_set_ne ej]; exact h2, h3, Reps.bkw h4 bw⟩
  · by_cases ej : i = j
    · subst ej
      rw [List.getElem?_set_self hi] at e
      cases e
      exact ⟨p, if_pos rfl, List.getElem?_set_self hσ, hs.1, hs.2⟩
    · rw [List.getElem?_set_ne ej] at e
      obtain ⟨q, h1, h2, h3, h4⟩ := S.ownd j xs e
      exact ⟨q, by show (if j = i then some p else ow j) = some q; rw [if_neg fun z => ej z.symm]; exact h1, by rw [List.getElem?_set_ne ej]; exact h2, h3, h4⟩
  · by_cases ej : j = i
    · simp only [ej, if_true] at e
      cases e
      exact ⟨h0, nB, (S.amb p hp).2, mu, s, by rw [ej, List.getElem?_set_self hi], fun r z => by rw [z] at hs; exact hs, fun z => by rw [z] at hs; exact hs⟩
    · simp only [ej, if_false] at e
      obtain ⟨h1, h2, h3, h4, t, h5, h6⟩ := S.ows j q e
      exact ⟨h1, fun z => h2 (w q z), h3, h4, t, by rw [List.getElem?_set_ne fun z => ej z.symm]; exact h5, h6⟩
  · have no : ∀ k, ow k ≠ some p := fun k z => (S.ows k p z).2.1 hp
    by_cases e3 : j = i <;> by_cases e4 : k = i
    · rw [e3, e4]
    · simp only [e3, e4, if_true, if_false] at e e2
      rw [← Option.some.inj e] at e2
      exact absurd e2 (no k)
    · simp only [e3, e4, if_true, if_false] at e e2
      rw [← Option.some.inj e2] at e
      exact absurd e (no j)
    · simp only [e3, e4, if_false] at e e2
      exact S.inj j k q e e2
  · by_cases ej : i = j
    · subst ej
      rw [List.getElem?_set_self hi] at e
      cases e
      exact hs.elim
    · rw [List.getElem?_set_ne ej] at e e2
      exact S.alt j r a e hk hm e2
end
end B
end

section
set_option Elab.async false
set_option linter.all false
set_option maxRecDepth 100000
set_option maxHeartbeats 1000000
/-! BR: the statements. -/
namespace B
open PySem PySem.Spec PyProof.Rows L2
section
variable {T : Stat} {G : Sg} {W : WX} {X : Cx} {B : Addr → Prop} {H0 H H1 H2 H' : Hp} {en en' : Env} {o o1 o2 o' : Objs} {σ σ' : St} {ow ow1 ow' : Nat → Option Addr} {oa oa0 oa1 oa2 oa' : List Addr} {bk bk' : Addr → Prop} {r : R} {v : V} {Q : VK} {lk : List Nat} {D : Ends}
variable {a b c tg : Expr} {es : List Expr} {ea eb ec : E} {ies : Es} {pos : Pos}
theorem GoodS.outO {x : Option Env} (h : GoodS T B H0 oa0 W lk ow oa H D (outO x o)) : ∃ en', x = some en' ∧ GoodS T B H0 oa0 W lk ow oa H D (.next en' o) := by
  cases x with
  | none => exact h.elim
  | some e => exact ⟨e, rfl, h⟩
/-- the start's heap had it not -/
theorem h0_none (S : SR T B H0 en o σ H ow oa) {p : Addr} (h : H p = none) : H0 p = none := by
  cases e : H0 p with
  | none => rfl
  | some u =>
    by_cases hb : p ∈ oa
    · obtain ⟨dx, vs, q⟩ := S.obs.ins hb
      rw [q] at h; cases h
    · rw [S.kept p u e hb] at h; cases h
theorem put1_own {i : Nat} (h : put1 lk i true r en = some en') : i < en.length ∧ i ∉ lk ∧ r.k = .ex ∧ ((∃ xs, r.d = .lst xs ∧ en' = en.set i (.own xs)) ∨ ∃ kvs, r.d = .dct kvs ∧ en' = en.set i (.ownd kvs)) := by
  unfold put1 at h
  rw [Option.ite_none_left_eq_some] at h
  obtain ⟨h1, h⟩ := h
  simp only [Bool.or_eq_true, List.contains_iff_mem, decide_eq_true_eq, not_or] at h1
  rw [if_pos rfl] at h
  cases hk : r.k <;> cases hd : r.d <;> rw [hk, hd] at h <;> first | cases h | skip
  · exact ⟨by omega, h1.1, rfl, .inl ⟨_, rfl, rfl⟩⟩
  · exact ⟨by omega, h1.1, rfl, .inr ⟨_, rfl, rfl⟩⟩
/-- run, by a store -/
theorem run_own {p : Addr} (hp : H p = none) (dm : ∀ b, H1 b = none → H b = none) (E1 : Run lk ow oa H ow oa1 H1) (s : ∀ j q, ow' j = some q → ow j = some q ∨ q = p) (l : ∀ j, j ∈ lk → ow' j = ow j) : Run lk ow oa H ow' oa1 H1 :=
  ⟨E1.keep, E1.pre, E1.new, fun i q e => (s i q e).elim (fun z => .inl ⟨i, z⟩) fun z => .inr (by rw [z]; exact hp), l, E1.mt0, E1.dom⟩
/-- name = e -/
theorem set_of {i : Nat} {e : E} (h : tSt T G W lk (.set i e) D σ H) : tE T G W e σ H fun x H1 => D.nx (σ.set i (some x)) H1 := by
  obtain ⟨B, H0, oa0, en, o, ow, oa, S, E0, h⟩ := h
  refine good_s S E0 h fun r o1 v H1 oa1 E1 R1 S1 E2 h => ?_
  obtain ⟨en', he, h⟩ := h.outO
  obtain ⟨q1, q2, q3, rfl⟩ := put1_val he
  obtain ⟨ow', os, S2⟩ := S1.put (R1.fz S1 S.owt S.Bt q3) q1 q2
  exact h _ _ ow' oa1 S2 os.run E2
theorem RRs.mut : ∀ {rs : List R} {vs : List V} {xs : List Addr}, RRs T H bk oa rs vs xs → ∀ p ∈ xs, ∃ u, H p = some u ∧ mutO u = true
  | _, _, _, .nil, p, h => by cases h
  | _, _, _, .al _ _ t, p, h => t.mut p h
  | _, _, _, .fz _ _ t, p, h => t.mut p h
  | _, _, _, .ex _ hf t, p, h => by
    rcases List.mem_cons.mp h with rfl | h
    · exact hf.mut
    · exact t.mut p h
theorem putAll_cons {t : Nat × Bool} {ts : List (Nat × Bool)} {rs : List R} (e : putAll lk (t :: ts) (r :: rs) en = some en') : ∃ en1, put1 lk t.1 t.2 r en = some en1 ∧ putAll lk ts rs en1 = some en' := by
  have e' : (put1 lk t.1 t.2 r en).bind (putAll lk ts rs) = some en' := e
  exact Option.bind_eq_some_iff.mp e'
/-- results stored one by one -/
theorem put_all {K : Addr → Prop} : ∀ {rs : List R} {vs : List V} {xs : List Addr} {ts : List (Nat × Bool)} {en : Env} {σ : St} {ow : Nat → Option Addr}, RRs T H K oa rs vs xs → xs.Nodup → (∀ p ∈ xs, H0 p = none ∧ ¬ B p) → (∀ b, bkS (fun b => B b ∨ b ∈ xs) ow oa b → K b) →
    SR T (fun b => B b ∨ b ∈ xs) H0 en o σ H ow oa → putAll lk ts rs en = some en' →
    vs.length = ts.length ∧ ∃ ow', (∀ j q, ow' j = some q → ow j = some q ∨ q ∈ xs) ∧ (∀ j, j ∈ lk → ow' j = ow j) ∧ SR T B H0 en' o (setL σ (ts.map (·.1)) vs) H ow' oa
  | _, _, _, ts, en, σ, ow, .nil, nd, hx, hk, S, e => by
    cases ts with
    | nil =>
      cases e
      exact ⟨rfl, ow, fun j q z => .inl z, fun _ _ => rfl, S.unb fun b z => .inl z⟩
    | cons t ts => cases e
  | _, _, _, ts, en, σ, ow, .al h1 h2 t, nd, hx, hk, S, e => by
    cases ts with
    | nil => cases e
    | cons t ts =>
      obtain ⟨en1, e1, e2⟩ := putAll_cons e
      obtain ⟨i, b⟩ := t
      cases b with
      | false => exact absurd h1 (put1_val e1).2.2.1
      | true =>
        have := (put1_own e1).2.2.1
        rw [h1] at this; cases this
  | _, _, _, ts, en, σ, ow, .fz (r := r) (v := v) h1 h2 t, nd, hx, hk, S, e => by
    cases ts with
    | nil => cases e
    | cons u ts =>
      obtain ⟨en1, e1, e2⟩ := putAll_cons e
      obtain ⟨i, b⟩ := u
      cases b with
      | false =>
        obtain ⟨q1, q2, q3, rfl⟩ := put1_val e1
        obtain ⟨ow1, os, S1⟩ := S.put (Rep.bkw h2 hk) q1 q2
        obtain ⟨q4, ow2, w1, w2, S2⟩ := put_all t nd hx (fun b z => hk b (os.bkk b z)) S1 e2
        exact ⟨by simp [q4], ow2, fun j q z => (w1 j q z).imp_left (os.sub j q), fun j hj => (w2 j hj).trans (os.lck j hj), S2⟩
      | true =>
        have := (put1_own e1).2.2.1
        rw [h1] at this; cases this
  | _, _, _, ts, en, σ, ow, .ex (r := r) (p := p) (xs := xs) h1 h2 t, nd, hx, hk, S, e => by
    have nd2 := List.nodup_cons.mp nd
    have bw : ∀ b, bkS (fun b => B b ∨ b ∈ xs) ow oa b → bkS (fun b => B b ∨ b ∈ p :: xs) ow oa b := fun b z => by
      rcases z with (z | z) | z | z
      · exact .inl (.inl z)
      · exact .inl (.inr (List.mem_cons_of_mem _ z))
      · exact .inr (.inl z)
      · exact .inr (.inr z)
    cases ts with
    | nil => cases e
    | cons u ts =>
      obtain ⟨en1, e1, e2⟩ := putAll_cons e
      obtain ⟨i, b⟩ := u
      cases b with
      | false =>
        obtain ⟨q1, q2, q3, rfl⟩ := put1_val e1
        have Su : SR T (fun b => B b ∨ b ∈ xs) H0 en o σ H ow oa := S.unb fun b z => z.imp_right fun z => List.mem_cons_of_mem _ z
        have nb : ¬ bkS (fun b => B b ∨ b ∈ xs) ow oa p := by
          rintro ((z | z) | ⟨j, z⟩ | z)
          · exact (hx p List.mem_cons_self).2 z
          · exact nd2.1 z
          · exact (S.ows j p z).2.1 (.inr List.mem_cons_self)
          · exact (S.amb p (.inr List.mem_cons_self)).2 z
        have rp : Rep T H (bkS (fun b => B b ∨ b ∈ xs) ow oa) oa (.ref p) r.d := by
          cases hd : r.d <;> rw [hd] at h2
          case lst ys =>
            obtain ⟨vs, h4, h5⟩ := h2
            exact .lst h4 nb (Reps.bkw h5 fun b z => .inl (hk b (bw b z)))
          case dct kvs => exact .dct h2.1 nb h2.2
          all_goals exact h2.elim
        obtain ⟨ow1, os, S1⟩ := Su.put rp q1 q2
        obtain ⟨q4, ow2, w1, w2, S2⟩ := put_all t nd2.2 (fun q hq => hx q (List.mem_cons_of_mem _ hq)) (fun b z => hk b (bw b (os.bkk b z))) S1 e2
        exact ⟨by simp [q4], ow2, fun j q z => (w1 j q z).imp (os.sub j q) fun z => List.mem_cons_of_mem _ z, fun j hj => (w2 j hj).trans (os.lck j hj), S2⟩
      | true =>
        obtain ⟨q1, q2, q3, q4⟩ := put1_own e1
        have fr : Fresh T H (bkS (fun b => B b ∨ b ∈ p :: xs) ow oa) oa p r.d := h2.bkw hk
        obtain ⟨s, rfl, hs⟩ : ∃ s, en1 = en.set i s ∧ (match s with
            | .own ys => Fresh T H (bkS (fun b => B b ∨ b ∈ p :: xs) ow oa) oa p (.lst ys)
            | .ownd kvs => Fresh T H (bkS (fun b => B b ∨ b ∈ p :: xs) ow oa) oa p (.dct kvs)
            | _ => False) := by
          rcases q4 with ⟨ys, e3, e4⟩ | ⟨ys, e3, e4⟩
          · rw [e3] at fr; exact ⟨_, e4, fr⟩
          · rw [e3] at fr; exact ⟨_, e4, fr⟩
        obtain ⟨ow1, s1, s2, S1⟩ := S.putOwn (B := fun b => B b ∨ b ∈ xs) (lk := lk) (.inr List.mem_cons_self) (fun b z => z.imp_right fun z => List.mem_cons_of_mem _ z) (fun z => z.elim (hx p List.mem_cons_self).2 nd2.1) (hx p List.mem_cons_self).1 q1 q2 hs
        have bw2 : ∀ b, bkS (fun b => B b ∨ b ∈ xs) ow1 oa b → K b := fun b z => hk b (by
          rcases z with (z | z) | ⟨j, z⟩ | z
          · exact .inl (.inl z)
          · exact .inl (.inr (List.mem_cons_of_mem _ z))
          · rcases s1 j b z with z | z
            · exact .inr (.inl ⟨j, z⟩)
            · exact .inl (.inr (by rw [z]; exact List.mem_cons_self))
          · exact .inr (.inr z))
        obtain ⟨q5, ow2, w1, w2, S2⟩ := put_all t nd2.2 (fun q hq => hx q (List.mem_cons_of_mem _ hq)) bw2 S1 e2
        refine ⟨by simp [q5], ow2, fun j q z => ?_, fun j hj => (w2 j hj).trans (s2 j hj), S2⟩
        rcases w1 j q z with z | z
        · rcases s1 j q z with z | z
          · exact .inl z
          · exact .inr (by rw [z]; exact List.mem_cons_self)
        · exact .inr (List.mem_cons_of_mem _ z)
theorem bkXS {xs : List Addr} {b : Addr} (z : bkS (fun b => B b ∨ b ∈ xs) ow oa b) : bkX (bkS B ow oa) xs b := by
  rcases z with (z | z) | z | z
  · exact .inl (.inl z)
  · exact .inr z
  · exact .inl (.inr (.inl z))
  · exact .inl (.inr (.inr z))
/-- results stored, all of it -/
theorem put_end {rs : List R} {vs : List V} {xs : List Addr} {ts : List (Nat × Bool)} (S : SR T B H0 en o σ H ow oa) (E1 : Ext T B ow oa o1 H H1 oa1) (R1 : RRs T H1 (bkX (bkS B ow oa1) xs) oa1 rs vs xs) (nd : xs.Nodup) (hp : ∀ p ∈ xs, H p = none ∧ p ∉ oa1)
    (O : Obs T H1 (bkX (bkS B ow oa1) xs) oa1 o1) (e : putAll lk ts rs en = some en') : vs.length = ts.length ∧ ∃ ow', SR T B H0 en' o1 (setL σ (ts.map (·.1)) vs) H1 ow' oa1 ∧ Run lk ow oa H ow' oa1 H1 := by
  have SA := S.asides E1 hp R1.mut O
  obtain ⟨q1, ow', w1, w2, S2⟩ := put_all R1 nd (fun p hx => ⟨h0_none S (hp p hx).1, fun z => S.Bt p z (hp p hx).1⟩) (fun b z => bkXS z) SA e
  have R0 : Run lk ow oa H ow oa1 H1 := Ext.run E1 S.obs
  exact ⟨q1, ow', S2, R0.keep, R0.pre, R0.new, fun i p z => (w1 i p z).elim (fun z => .inl ⟨i, z⟩) fun z => .inr (hp p z).1, fun j hj => w2 j hj, R0.mt0, R0.dom⟩
theorem own_of {i : Nat} {e : E} (h : tSt T G W lk (.own i e) D σ H) : tE T G W e σ H fun x H1 => D.nx (σ.set i (some x)) H1 := by
  obtain ⟨B, H0, oa0, en, o, ow, oa, S, E0, h⟩ := h
  have h2 : GoodS T B H0 oa0 W lk ow oa H D ((e.ev G en o).out fun r o => outO (put1 lk i true r en) o) := h
  clear h
  refine ⟨B, H0, en, o, ow, oa, S, ?_⟩
  cases he : e.ev G en o with
  | exc c o1 =>
    rw [he] at h2
    exact fun H' oa' E1 => h2 σ H' oa' ((E0.ext S E1).out (S.ext E1))
  | bad =>
    rw [he] at h2
    exact h2
  | ok r o1 =>
    rw [he] at h2
    intro v H1 oa1 E1 R1
    obtain ⟨en', he, h⟩ := GoodS.outO h2
    obtain ⟨q1, q2, q3, q4⟩ := put1_own he
    obtain ⟨p, rfl, p1, p2, p3, p4⟩ := R1.rep_ex q3
    have bw : ∀ b, bkX (bkS B ow oa1) [p] b → bkS B ow oa1 b ∨ b = p := fun b z => z.imp_right fun z => List.mem_singleton.mp z
    have fr : Fresh T H1 (bkX (bkS B ow oa1) [p]) oa1 p r.d := p3.step (fun _ _ e _ => e) (fun _ e => e) (fun b z => (bw b z).elim .inl fun z => .inr (.inl z)) (fun _ _ e => e)
    have RR : RRs T H1 (bkX (bkS B ow oa1) [p]) oa1 [r] [.ref p] [p] := .ex q3 fr .nil
    obtain ⟨_, ow', S2, Rn⟩ := put_end (ts := [(i, true)]) S E1 RR (by simp) (fun q hq => by rw [List.mem_singleton.mp hq]; exact ⟨p1, p2⟩) (p4.weak bw) (by
      show (put1 lk i true r en).bind _ = some en'
      rw [he]
      rfl)
    exact h _ _ ow' oa1 S2 Rn (E0.ext S E1)
theorem tL_mono {Q Q' : List V → Hp → Prop} {e : Es} (h : tL T G W e σ H Q) (w : ∀ vs H, Q vs H → Q' vs H) : tL T G W e σ H Q' := by
  obtain ⟨B, H0, en, o, ow, oa, S, h⟩ := h
  refine ⟨B, H0, en, o, ow, oa, S, ?_⟩
  cases he : e.ev G en o with
  | ok rs o1 => rw [he] at h; exact fun vs H1 oa1 xs E1 R1 n f O => w _ _ (h vs H1 oa1 xs E1 R1 n f O)
  | exc c o1 => rw [he] at h; exact h
  | bad => rw [he] at h; exact h
/-- names = things -/
theorem par_of {ts : List (Nat × Bool)} {e : Es} (h : tSt T G W lk (.par ts e) D σ H) : tL T G W e σ H fun vs H1 => vs.length = ts.length ∧ D.nx (setL σ (ts.map (·.1)) vs) H1 := by
  obtain ⟨B, H0, oa0, en, o, ow, oa, S, E0, h⟩ := h
  have h2 : GoodS T B H0 oa0 W lk ow oa H D ((e.ev G en o).out fun r o => outO (if ts.length ≤ 1000 then putAll lk ts r en else none) o) := h
  clear h
  refine ⟨B, H0, en, o, ow, oa, S, ?_⟩
  cases he : e.ev G en o with
  | exc c o1 =>
    rw [he] at h2
    exact fun H' oa' E1 => h2 σ H' oa' ((E0.ext S E1).out (S.ext E1))
  | bad =>
    rw [he] at h2
    exact h2
  | ok rs o1 =>
    rw [he] at h2
    intro vs H1 oa1 xs E1 R1 n f O
    obtain ⟨en', he, h⟩ := GoodS.outO h2
    rw [Option.ite_none_right_eq_some] at he
    obtain ⟨q1, ow', S2, Rn⟩ := put_end S E1 R1 n f O he.2
    exact ⟨q1, h _ _ ow' oa1 S2 Rn (E0.ext S E1)⟩
/-- names = things, by a pair that is laid -/
theorem parU_of {ts : List (Nat × Bool)} {e : Es} (h : tSt T G W lk (.par ts e) D σ H) : tL T G W e σ H fun vs H1 => vs.length ≤ sizeLine ∧ ∀ p, H1 p = none → gTup X.K ts.length (gMany (ts.map (·.1))) (.ref p) σ (L2.upd H1 p (.tup vs)) D.nx := by
  obtain ⟨B, H0, oa0, en, o, ow, oa, S, E0, h⟩ := h
  have h2 : GoodS T B H0 oa0 W lk ow oa H D ((e.ev G en o).out fun r o => outO (if ts.length ≤ 1000 then putAll lk ts r en else none) o) := h
  clear h
  refine ⟨B, H0, en, o, ow, oa, S, ?_⟩
  cases he : e.ev G en o with
  | exc c o1 =>
    rw [he] at h2
    exact fun H' oa' E1 => h2 σ H' oa' ((E0.ext S E1).out (S.ext E1))
  | bad =>
    rw [he] at h2
    exact h2
  | ok rs o1 =>
    rw [he] at h2
    intro vs H1 oa1 xs E1 R1 n f O
    obtain ⟨en', he, h⟩ := GoodS.outO h2
    rw [Option.ite_none_right_eq_some] at he
    obtain ⟨hl, he⟩ := he
    have q1 : vs.length = ts.length := (put_end S E1 R1 n f O he).1
    refine ⟨by rw [q1]; exact Nat.le_trans hl (by decide), fun p hp => ?_⟩
    have S1 := S.ext E1
    have Eu : Ext T B ow oa1 o1 H1 (L2.upd H1 p (.tup vs)) oa1 := Ext.upd S1.obs hp
    have E2 : Ext T B ow oa o1 H (L2.upd H1 p (.tup vs)) oa1 := Ext.trans E1 S.obs Eu
    have nx : ∀ q ∈ xs, q ≠ p := fun q hq z => by
      obtain ⟨u, hu, _⟩ := R1.mut q hq
      rw [z, hp] at hu; cases hu
    have R2 : RRs T (L2.upd H1 p (.tup vs)) (bkX (bkS B ow oa1) xs) oa1 rs vs xs := R1.step (fun b w e _ => upd_keep hp b w e) (fun b z => .inl z) (fun _ _ e => e) (fun b w e _ => upd_keep hp b w e) (fun q hq => (f q hq).2) fun b hb => ⟨.inl (.inr (.inr hb)), S1.obs.ins hb⟩
    obtain ⟨_, ow', S2, Rn⟩ := put_end S E2 R2 n f ((O.upd hp).weak fun b z => .inl z) he
    exact ⟨p, vs, rfl, .inl (.inl upd_same), q1, gMany_of (by rw [q1, List.length_map]) (h _ _ ow' oa1 S2 Rn (E0.ext S E1))⟩
/-- names = a tuple -/
theorem unp_of {is : List Nat} {e : E} (hK : T.K = X.K) (h : tSt T G W lk (.unp is e) D σ H) : tE T G W e σ H fun x H1 => gT X.K (.many is) x σ H1 D.nx := by
  obtain ⟨B, H0, oa0, en, o, ow, oa, S, E0, h⟩ := h
  refine good_s S E0 h fun r o1 v H1 oa1 E1 R1 S1 E2 h => ?_
  cases hd : r.d <;> rw [hd] at h <;> first | exact h.elim | skip
  obtain ⟨en', he, h⟩ := GoodS.outO h
  have t := R1.top S1
  rw [hd] at t
  exact put_tg (tgt := .many is) hK S1 t he fun σ' ow' os S' _ => h _ _ ow' oa1 S' os.run E2
/-! ### own things changed -/
theorem SR.chg {i : Nat} {p : Addr} {s : Slot} {u : HO} (S : SR T B H0 en o σ H ow oa) (hi : ow i = some p) (hσ : σ[i]? = some (some (.ref p))) (hu : mutO u = true)
    (hs : match s with
      | .own xs => ∃ vs, u = .lst vs ∧ Reps T H (bkS B ow oa) oa vs xs
      | .ownd kvs => u = .dK (kvs.map cKV) ∧ ∀ q ∈ kvs, okK q.1 ∧ okS q.2
      | _ => False) (hl : i ∉ lk) : SR T B H0 (en.set i s) o σ (upd H p u) ow oa ∧ Run lk ow oa H ow oa (upd H p u) := by
  obtain ⟨h0, nB, np, ⟨w0, hw, mw⟩, s0, hen, _⟩ := S.ows i p hi
  have hlen : i < en.length := by
    obtain ⟨h, _⟩ := List.getElem?_eq_some_iff.mp hen
    exact h
  have ne : ∀ b w, H b = some w → b ≠ p → upd H p u b = some w := fun b w e h => by rw [upd_ne h]; exact e
  have kk : ∀ b w, H b = some w → (bkS B ow oa b → mutO w = false) → upd H p u b = some w := fun b w e h => ne b w e fun z => by
    subst z
    rw [hw] at e
    cases e
    rw [h (.inr (.inl ⟨i, hi⟩))] at mw
    cases mw
  have rep : ∀ {v d}, Rep T H (bkS B ow oa) oa v d → Rep T (upd H p u) (bkS B ow oa) oa v d := fun h => Rep.step kk (fun _ z => .inl z) (fun _ _ e => e) _ _ h
  have reps : ∀ {v d}, Reps T H (bkS B ow oa) oa v d → Reps T (upd H p u) (bkS B ow oa) oa v d := fun h => Reps.step kk (fun _ z => .inl z) (fun _ _ e => e) _ _ h
  refine ⟨⟨by rw [List.length_set, S.len], fun b hb => ?_, fun b w e hb => ne b w (S.kept b w e hb) fun z => (by rw [z, h0] at e; cases e), ⟨S.obs.len, S.obs.nod, fun n fs e => ?_⟩, fun j r e => ?_, fun j xs e => ?_, fun j kvs e => ?_, fun j q e => ?_, S.inj, fun j r a e hk hm e2 => ?_⟩,
    ⟨fun b w e hb hx => ne b w e fun z => hl (hx i (by rw [z]; exact hi)), fun _ _ e => e, fun _ h => .inl h, fun j q e => .inl ⟨j, e⟩, fun _ _ => rfl, fun b w e m => ne b w e fun z => ?_, fun b z => ?_⟩⟩
  · obtain ⟨⟨w, e, m⟩, n⟩ := S.amb b hb
    exact ⟨⟨w, ne b w e fun z => nB (z ▸ hb), m⟩, n⟩
  · obtain ⟨a, dx, vs, h1, h2, h3, h4⟩ := S.obs.there n fs e
    exact ⟨a, dx, vs, h1, ne a _ h2 fun z => np (z ▸ List.mem_of_getElem? h1), h3, reps h4⟩
  · by_cases ej : i = j
    · subst ej
      rw [List.getElem?_set_self hlen] at e
      cases e
      exact hs.elim
    · rw [List.getElem?_set_ne ej] at e
      obtain ⟨v, h1, h2, h3⟩ := S.val j r e
      refine ⟨v, h1, ?_, fun z => rep (h3 z)⟩
      by_cases hk : r.k = .al
      · cases hd : r.d <;> rw [hd] at h2
        case lst xs =>
          obtain ⟨a, vs, rfl, h4, h5⟩ := h2
          exact ⟨a, vs, rfl, ne _ _ h4 fun z => S.alt j r a e hk (by rw [hd]; rfl) h1 (by rw [z]; exact h0), reps h5⟩
        case dct kvs =>
          obtain ⟨a, rfl, h4, h5⟩ := h2
          exact ⟨a, rfl, ne _ _ h4 fun z => S.alt j r a e hk (by rw [hd]; rfl) h1 (by rw [z]; exact h0), h5⟩
        all_goals exact rep h2
      · exact Rep.top (rep (h3 hk))
  · by_cases ej : i = j
    · subst ej
      rw [List.getElem?_set_self hlen] at e
      cases e
      obtain ⟨vs, rfl, h2⟩ := hs
      exact ⟨p, vs, hi, hσ, upd_same, reps h2⟩
    · rw [List.getElem?_set_ne ej] at e
      obtain ⟨q, vs, h1, h2, h3, h4⟩ := S.own j xs e
      exact ⟨q, vs, h1, h2, ne _ _ h3 fun z => ej (S.inj i j p hi (z ▸ h1)), reps h4⟩
  · by_cases ej : i = j
    · subst ej
      rw [List.getElem?_set_self hlen] at e
      cases e
      obtain ⟨rfl, h2⟩ := hs
      exact ⟨p, hi, hσ, upd_same, h2⟩
    · rw [List.getElem?_set_ne ej] at e
      obtain ⟨q, h1, h2, h3, h4⟩ := S.ownd j kvs e
      exact ⟨q, h1, h2, ne _ _ h3 fun z => ej (S.inj i j p hi (z ▸ h1)), h4⟩
  · obtain ⟨h1, h2, h3, ⟨w, h4, h5⟩, t, h6, h7, h8⟩ := S.ows j q e
    by_cases ej : i = j
    · subst ej
      rw [hi] at e
      cases e
      exact ⟨h1, h2, h3, ⟨u, upd_same, hu⟩, s, by rw [List.getElem?_set_self hlen], fun r z => by rw [z] at hs; exact hs, fun z => by rw [z] at hs; exact hs⟩
    · exact ⟨h1, h2, h3, ⟨w, ne _ _ h4 fun z => ej (S.inj i j p hi (z ▸ e)), h5⟩, t, by rw [List.getElem?_set_ne ej]; exact h6, h7, h8⟩
  · by_cases ej : i = j
    · subst ej
      rw [List.getElem?_set_self hlen] at e
      cases e
      exact hs.elim
    · rw [List.getElem?_set_ne ej] at e
      exact S.alt j r a e hk hm e2
  · rw [z, hw] at e
    cases e
    rw [m] at mw
    cases mw
  · by_cases e : b = p
    · rw [e, upd_same] at z; cases z
    · rw [upd_ne e] at z; exact z
theorem onOwn_some_ : True := trivial
end
end B
end

section
set_option Elab.async false
set_option linter.all false
set_option maxRecDepth 100000
set_option maxHeartbeats 1000000
/-! BS: the statements that change own things; returns; loops. -/
namespace B
open PySem PySem.Spec PyProof.Rows L2
section
variable {T : Stat} {G : Sg} {W : WX} {X : Cx} {B : Addr → Prop} {H0 H H1 H2 H' : Hp} {en en' : Env} {o o1 o2 o' : Objs} {σ σ' : St} {ow ow1 ow' : Nat → Option Addr} {oa oa0 oa1 oa2 oa' : List Addr} {bk bk' : Addr → Prop} {r : R} {v : V} {Q : VK} {lk : List Nat} {D : Ends}
variable {a b c tg : Expr} {es : List Expr} {ea eb ec : E} {ies : Es} {pos : Pos}
theorem isOwn_some {i : Nat} (h : isOwn i en = true) : ∃ xs, en[i]? = some (.own xs) := by
  unfold isOwn at h
  split at h
  · exact ⟨_, by assumption⟩
  · cases h
theorem isOwnD_some {i : Nat} (h : isOwnD i en = true) : ∃ xs, en[i]? = some (.ownd xs) := by
  unfold isOwnD at h
  split at h
  · exact ⟨_, by assumption⟩
  · cases h
theorem onOwn_some {i : Nat} {f : List _root_.B.D → Option (List _root_.B.D)} (h : onOwn lk i en f = some en') : i ∉ lk ∧ ∃ xs ys, en[i]? = some (.own xs) ∧ f xs = some ys ∧ ys.length ≤ bigL ∧ en' = en.set i (.own ys) := by
  unfold onOwn at h
  rw [Option.ite_none_left_eq_some] at h
  obtain ⟨h1, h⟩ := h
  split at h
  · rename_i xs hx
    obtain ⟨ys, h2, h3⟩ := Option.bind_eq_some_iff.mp h
    rw [Option.ite_none_right_eq_some] at h3
    exact ⟨fun z => h1 (List.contains_iff_mem.mpr z), xs, ys, hx, h2, h3.1, (Option.some.inj h3.2).symm⟩
  · cases h
theorem own_at {i : Nat} {xs : List _root_.B.D} (S : SR T B H0 en o σ H ow oa) (h : en[i]? = some (.own xs)) : ∃ p vs, σ[i]? = some (some (.ref p)) ∧ H p = some (.lst vs) ∧ Reps T H (bkS B ow oa) oa vs xs ∧ tyV X.K "list" (.ref p) H := by
  obtain ⟨p, vs, h1, h2, h3, h4⟩ := S.own i xs h
  exact ⟨p, vs, h2, h3, h4, .inl ⟨rfl, vs, .of h3⟩⟩
/-- an own list changed -/
theorem own_mut {i : Nat} {f : List _root_.B.D → Option (List _root_.B.D)} (S : SR T B H0 en o σ H ow oa) (h : onOwn lk i en f = some en') : ∃ p vs xs ys, en[i]? = some (.own xs) ∧ σ[i]? = some (some (.ref p)) ∧ H p = some (.lst vs) ∧ Reps T H (bkS B ow oa) oa vs xs ∧ f xs = some ys ∧ ys.length ≤ bigL ∧
    ∀ ws, Reps T H (bkS B ow oa) oa ws ys → SR T B H0 en' o σ (upd H p (.lst ws)) ow oa ∧ Run lk ow oa H ow oa (upd H p (.lst ws)) := by
  obtain ⟨h1, xs, ys, h2, h3, h4, rfl⟩ := onOwn_some h
  obtain ⟨p, vs, q1, q2, q3, q4⟩ := S.own i xs h2
  exact ⟨p, vs, xs, ys, h2, q2, q3, q4, h3, h4, fun ws r => S.chg q1 q2 rfl ⟨ws, rfl, r⟩ h1⟩
theorem big_line {n : Nat} (h : n ≤ bigL) : n < sizeLine := by
  show n < 2 ^ 24
  unfold bigL at h
  omega
theorem GoodS.ite {p : Prop} [Decidable p] {x : Out} (h : GoodS T B H0 oa0 W lk ow oa H D (if p then x else .bad)) : p ∧ GoodS T B H0 oa0 W lk ow oa H D x := by
  by_cases z : p
  · rw [if_pos z] at h; exact ⟨z, h⟩
  · rw [if_neg z] at h; exact h.elim
theorem ref_inj {i : Nat} {p q : Addr} (h : σ[i]? = some (some (.ref p))) (h' : σ[i]? = some (some (.ref q))) : p = q := by
  rw [h] at h'
  cases h'
  rfl
theorem own_inj {i : Nat} {xs ys : List _root_.B.D} (h : en[i]? = some (.own xs)) (h' : en[i]? = some (.own ys)) : xs = ys := by
  rw [h] at h'
  cases h'
  rfl
theorem app_of {i : Nat} {e : E} (h : tSt T G W lk (.app i e) D σ H) : tBM X.K "list" rAppend (tVar i) (tCons (tE T G W e) tNil) σ H fun _ H1 => D.nx σ H1 := by
  obtain ⟨B, H0, oa0, en, o, ow, oa, S, E0, h⟩ := h
  obtain ⟨c, h⟩ := GoodS.ite h
  obtain ⟨xs, hx⟩ := isOwn_some c
  obtain ⟨p, vs, h1, h2, h3, ty⟩ := own_at (X := X) S hx
  refine ⟨.ref p, h1, ty, good_s S E0 h fun r o1 v H1 oa1 E1 R1 S1 E2 h => ?_⟩
  obtain ⟨hk, h⟩ := GoodS.ite h
  obtain ⟨en', he, h⟩ := h.outO
  obtain ⟨p', vs', xs', ys, q1, q2, q3, q4, q5, q6, q7⟩ := own_mut S1 he
  cases ref_inj h1 q2
  cases q5
  obtain ⟨S2, Rn⟩ := q7 _ (q4.snoc (R1.fz S1 S.owt S.Bt hk))
  rw [List.length_append, List.length_singleton] at q6
  refine ⟨p, vs', v, rfl, rfl, q3, big_line (by rw [q4.len]; omega), h _ _ ow oa1 S2 Rn E2⟩
theorem ext_of {i : Nat} {e : E} (h : tSt T G W lk (.ext i e) D σ H) : tBM X.K "list" rExtend (tVar i) (tCons (tE T G W e) tNil) σ H fun _ H1 => D.nx σ H1 := by
  obtain ⟨B, H0, oa0, en, o, ow, oa, S, E0, h⟩ := h
  obtain ⟨c, h⟩ := GoodS.ite h
  obtain ⟨xs, hx⟩ := isOwn_some c
  obtain ⟨p, vs, h1, h2, h3, ty⟩ := own_at (X := X) S hx
  refine ⟨.ref p, h1, ty, good_s S E0 h fun r o1 v H1 oa1 E1 R1 S1 E2 h => ?_⟩
  cases hd : r.d <;> rw [hd] at h <;> first | exact h.elim | skip
  rename_i zs
  obtain ⟨en', he, h⟩ := GoodS.outO h
  obtain ⟨p', vs', xs', ys, q1, q2, q3, q4, q5, q6, q7⟩ := own_mut S1 he
  cases ref_inj h1 q2
  cases q5
  have t := R1.top S1
  rw [hd] at t
  obtain ⟨b, ws, rfl, h4, h5⟩ := t.lst_
  obtain ⟨S2, Rn⟩ := q7 _ (q4.app h5)
  rw [List.length_append] at q6
  exact ⟨p, b, vs', ws, rfl, rfl, q3, h4, Nat.le_of_lt (big_line (by rw [q4.len, h5.len]; exact q6)), h _ _ ow oa1 S2 Rn E2⟩
theorem Reps.dropLast {vs : List V} {ds : List _root_.B.D} (r : Reps T H bk oa vs ds) : Reps T H bk oa vs.dropLast ds.dropLast := by
  rw [List.dropLast_eq_take, List.dropLast_eq_take, r.len]
  exact r.take _
theorem pop_of {i : Nat} (h : tSt T G W lk (.pop i) D σ H) : tBM0 X.K "list" rPop (tVar i) σ H fun _ H1 => D.nx σ H1 := by
  obtain ⟨B, H0, oa0, en, o, ow, oa, S, E0, h⟩ := h
  obtain ⟨en', he, h⟩ := GoodS.outO h
  obtain ⟨p', vs', xs', ys, q1, q2, q3, q4, q5, q6, q7⟩ := own_mut S he
  rw [Option.ite_none_left_eq_some] at q5
  obtain ⟨n, q5⟩ := q5
  cases q5
  obtain ⟨S2, Rn⟩ := q7 _ q4.dropLast
  have hn : 0 < vs'.length := by
    rw [q4.len]
    cases xs' with
    | nil => exact absurd rfl n
    | cons => simp
  refine ⟨.ref p', q2, .inl ⟨rfl, vs', .of q3⟩, p', vs', vs'[vs'.length - 1], rfl, rfl, q3, List.getElem?_eq_getElem (by omega), h _ _ ow oa S2 Rn E0⟩
theorem Reps.erase {vs : List V} {ds : List _root_.B.D} (r : Reps T H bk oa vs ds) (m : Nat) : Reps T H bk oa (vs.eraseIdx m) (ds.eraseIdx m) := by
  rw [List.eraseIdx_eq_take_drop_succ, List.eraseIdx_eq_take_drop_succ]
  exact (r.take _).app (r.drop _)
theorem popTo_of {i j : Nat} {e : E} (h : tSt T G W lk (.popTo j i e) D σ H) : tBM X.K "list" rPopAt (tVar i) (tCons (tE T G W e) tNil) σ H fun x H1 => D.nx (σ.set j (some x)) H1 := by
  obtain ⟨B, H0, oa0, en, o, ow, oa, S, E0, h⟩ := h
  obtain ⟨c, h⟩ := GoodS.ite h
  obtain ⟨xs, hx⟩ := isOwn_some c
  obtain ⟨p, vs, h1, h2, h3, ty⟩ := own_at (X := X) S hx
  refine ⟨.ref p, h1, ty, good_s S E0 h fun r o1 v H1 oa1 E1 R1 S1 E2 h => ?_⟩
  cases hd : r.d <;> rw [hd] at h <;> first | exact h.elim | skip
  rename_i z
  rw [hx] at h
  have h' : GoodS T B H0 oa0 W lk ow oa1 H1 D (match ixN xs.length z with
      | some m => match xs[m]? with
        | some d => outO ((onOwn lk i en fun xs => some (xs.eraseIdx m)).bind (put1 lk j false ⟨d, .fz⟩)) o1
        | none => .bad
      | none => .bad) := h
  clear h
  cases hm : ixN xs.length z with
  | none => rw [hm] at h'; exact h'.elim
  | some m =>
    rw [hm] at h'
    have h2 : GoodS T B H0 oa0 W lk ow oa1 H1 D (match xs[m]? with
        | some d => outO ((onOwn lk i en fun xs => some (xs.eraseIdx m)).bind (put1 lk j false ⟨d, .fz⟩)) o1
        | none => .bad) := h'
    clear h'
    cases hg : xs[m]? with
    | none => rw [hg] at h2; exact h2.elim
    | some d =>
      rw [hg] at h2
      obtain ⟨en2, he, h⟩ := GoodS.outO h2
      obtain ⟨en', he, hp⟩ := Option.bind_eq_some_iff.mp he
      obtain ⟨p', vs', xs', ys, q1, q2, q3, q4, q5, q6, q7⟩ := own_mut S1 he
      cases ref_inj h1 q2
      cases own_inj hx q1
      cases q5
      obtain ⟨S2, Rn⟩ := q7 _ (q4.erase m)
      obtain ⟨w, hw, rw_⟩ := q4.get hg
      obtain ⟨u1, u2, u3, rfl⟩ := put1_val hp
      have r2 : Rep T (upd H1 p (.lst (vs'.eraseIdx m))) (bkS B ow oa1) oa1 w d := Rn.rep S1 rw_
      obtain ⟨ow', os, S3⟩ := S2.put r2 u1 u2
      have := R_int S1 R1 hd
      subst this
      obtain ⟨k1, k2, k3, k4⟩ := ixN_seq (show L2.ixN xs.length z = some m from hm)
      have hb : xs.length ≤ bigL + 1 := by
        have := q6
        rw [List.length_eraseIdx] at this
        split at this <;> omega
      unfold bigL at hb
      refine ⟨p, vs', z, m, w, rfl, rfl, q3, by omega, by omega, by rw [q4.len]; exact k1, hw, h _ _ ow' oa1 S3 (Rn.trans S2.inj os.run) E2⟩
theorem insert_of {i : Nat} {k e : E} (h : tSt T G W lk (.insert i k e) D σ H) : tBM X.K "list" (fun x vs H Q => ∃ (l : Addr) (xs : List V) (i : Int) (y : V), x = .ref l ∧ vs = [.int i, y] ∧ H l = some (.lst xs) ∧ xs.length < sizeLine ∧ 0 ≤ i ∧ i < 2 ^ 63 ∧
    Q .non (upd H l (.lst (xs.take i.toNat ++ [y] ++ xs.drop i.toNat)))) (tVar i) (tCons (tE T G W k) (tCons (tE T G W e) tNil)) σ H fun _ H1 => D.nx σ H1 := by
  obtain ⟨B, H0, oa0, en, o, ow, oa, S, E0, h⟩ := h
  obtain ⟨c, h⟩ := GoodS.ite h
  obtain ⟨xs, hx⟩ := isOwn_some c
  obtain ⟨p, vs, h1, h2, h3, ty⟩ := own_at (X := X) S hx
  refine ⟨.ref p, h1, ty, good_s S E0 h fun r1 o1 v1 H1 oa1 E1 R1 S1 E2 h => good_s S1 E2 h fun r o2 v H2 oa2 E3 R2 S2 E4 h => ?_⟩
  cases hd : r1.d <;> rw [hd] at h <;> first | exact h.elim | skip
  rename_i z
  obtain ⟨hk, h⟩ := GoodS.ite h
  obtain ⟨en', he, h⟩ := h.outO
  obtain ⟨p', vs', xs', ys, q1, q2, q3, q4, q5, q6, q7⟩ := own_mut S2 he
  cases ref_inj h1 q2
  cases own_inj hx q1
  cases q5
  obtain ⟨S3, Rn⟩ := q7 (vs'.take z.toNat ++ [v] ++ vs'.drop z.toNat) (by
    rw [List.append_assoc]
    exact (q4.take _).app (.cons (R2.fz S2 S1.owt S1.Bt hk.2) (q4.drop _)))
  have := R_int S1 R1 hd
  subst this
  have hb : vs'.length < sizeLine := by
    rw [q4.len]
    refine big_line ?_
    rw [List.length_append, List.length_cons, List.length_take, List.length_drop] at q6
    omega
  exact ⟨p, vs', z, v, rfl, rfl, q3, hb, hk.1.1, by omega, h _ _ ow oa2 S3 Rn E4⟩
theorem clear_of {i : Nat} (h : tSt T G W lk (.clear i) D σ H) : tBM0 X.K "list" rClear (tVar i) σ H fun _ H1 => D.nx σ H1 := by
  obtain ⟨B, H0, oa0, en, o, ow, oa, S, E0, h⟩ := h
  obtain ⟨en', he, h⟩ := GoodS.outO h
  obtain ⟨p', vs', xs', ys, q1, q2, q3, q4, q5, q6, q7⟩ := own_mut S he
  cases q5
  obtain ⟨S2, Rn⟩ := q7 [] .nil
  exact ⟨.ref p', q2, .inl ⟨rfl, vs', .of q3⟩, p', vs', rfl, rfl, q3, h _ _ ow oa S2 Rn E0⟩
theorem seti_of {i : Nat} {k e : E} (h : tSt T G W lk (.seti i k e) D σ H) : tE T G W e σ H fun x H1 => gSub (tVar i) (tE T G W k) rSetL x σ H1 D.nx := by
  obtain ⟨B, H0, oa0, en, o, ow, oa, S, E0, h⟩ := h
  obtain ⟨c, h⟩ := GoodS.ite h
  obtain ⟨xs, hx⟩ := isOwn_some c
  refine good_s S E0 h fun r o1 v H1 oa1 E1 R1 S1 E2 h => ?_
  obtain ⟨p, vs, h0, h1, h2, h3⟩ := S1.own i xs hx
  refine ⟨.ref p, h1, good_s S1 E2 h fun r2 o2 v2 H2 oa2 E3 R2 S2 E4 h => ?_⟩
  cases hd : r2.d <;> rw [hd] at h <;> first | exact h.elim | skip
  rename_i z
  obtain ⟨hk, h⟩ := GoodS.ite h
  obtain ⟨en', he, h⟩ := h.outO
  obtain ⟨p', vs', xs', ys, q1, q2, q3, q4, q5, q6, q7⟩ := own_mut S2 he
  cases ref_inj h1 q2
  obtain ⟨m, hm, rfl⟩ := Option.map_eq_some_iff.mp q5
  have rv := E3.rep S1.obs (R1.fz S1 S.owt S.Bt hk)
  obtain ⟨S3, Rn⟩ := q7 _ (q4.set rv m)
  have := R_int S2 R2 hd
  subst this
  exact ⟨p, vs', z, m, rfl, rfl, q3, by rw [q4.len]; exact hm, h _ _ ow oa2 S3 Rn E4⟩
theorem dput_conv (kvs : List (DKey × Sc)) (k : DKey) (s : Sc) : putK (kvs.map cKV) (cK k) (cS s) = (dput kvs k s).map cKV := by
  unfold putK dput
  have h1 : ((kvs.map cKV).any fun kv => decide (kv.1 = cK k)) = kvs.any fun kv => decide (kv.1 = k) := by
    rw [List.any_map]
    congr 1
    funext kv
    show decide (cK kv.1 = cK k) = decide (kv.1 = k)
    exact decide_eq_decide.mpr ⟨cK_inj, fun z => by rw [z]⟩
  rw [h1]
  split
  · rw [List.map_map, List.map_map]
    apply List.map_congr_left
    intro kv _
    show (if cK kv.1 = cK k then (cK kv.1, cS s) else cKV kv) = cKV (if kv.1 = k then (kv.1, s) else kv)
    by_cases z : kv.1 = k
    · rw [if_pos (by rw [z]), if_pos z]; rfl
    · rw [if_neg (fun q => z (cK_inj q)), if_neg z]
  · rw [List.map_append]; rfl
theorem dput_ok {kvs : List (DKey × Sc)} {k : DKey} {s : Sc} (h : ∀ p ∈ kvs, okK p.1 ∧ okS p.2) (hk : okK k) (hs : okS s) : ∀ p ∈ dput kvs k s, okK p.1 ∧ okS p.2 := by
  unfold dput
  split
  · intro p hp
    obtain ⟨q, hq, rfl⟩ := List.mem_map.mp hp
    by_cases z : q.1 = k
    · rw [if_pos z]; exact ⟨(h q hq).1, hs⟩
    · rw [if_neg z]; exact h q hq
  · intro p hp
    rcases List.mem_append.mp hp with hp | hp
    · exact h p hp
    · rw [List.mem_singleton.mp hp]; exact ⟨hk, hs⟩
theorem RepT.scv {s : Sc} {d : _root_.B.D} (h : RepT T H bk oa v d) (e : d.sc = some s) : v = cS s ∧ okS s := by
  cases d <;> first | cases e | skip
  all_goals exact ⟨(Rep.sc (show Rep T H bk oa v _ from h) rfl).1, (Rep.sc (show Rep T H bk oa v _ from h) rfl).2.1⟩
theorem dset_of {i : Nat} {k e : E} (h : tSt T G W lk (.dset i k e) D σ H) : sDPut (tVar i) (tE T G W k) (tE T G W e) D σ H := by
  obtain ⟨B, H0, oa0, en, o, ow, oa, S, E0, h⟩ := h
  obtain ⟨c, h⟩ := GoodS.ite h
  obtain ⟨kvs, hx⟩ := isOwnD_some c
  refine good_s S E0 h fun r o1 v H1 oa1 E1 R1 S1 E2 h => ?_
  obtain ⟨p, h0, h1, _⟩ := S1.ownd i kvs hx
  refine ⟨.ref p, h1, good_s S1 E2 h fun r2 o2 v2 H2 oa2 E3 R2 S2 E4 h => ?_⟩
  rw [hx] at h
  cases hk : r2.d.key with
  | none => rw [hk] at h; exact h.elim
  | some kk =>
    cases hs : r.d.sc with
    | none => rw [hk, hs] at h; exact h.elim
    | some ss =>
      rw [hk, hs] at h
      have h' : GoodS T B H0 oa0 W lk ow oa2 H2 D (if (lk.contains i || decide (1000 < kvs.length)) = true then .bad else .next (en.set i (.ownd (dput kvs kk ss))) o2) := h
      by_cases hl : (lk.contains i || decide (1000 < kvs.length)) = true
      · rw [if_pos hl] at h'; exact h'.elim
      · rw [if_neg hl] at h'
        simp only [Bool.or_eq_true, List.contains_iff_mem, decide_eq_true_eq, not_or] at hl
        obtain ⟨q, q1, q2, q3, q4⟩ := S2.ownd i kvs hx
        cases ref_inj h1 q2
        obtain ⟨k1, k2⟩ := RepT.key (R2.top S2) hk
        obtain ⟨s1, s2⟩ := RepT.scv (R1.top S1) hs
        subst k1
        subst s1
        obtain ⟨S3, Rn⟩ := S2.chg (s := .ownd (dput kvs kk ss)) (u := .dK (putK (kvs.map cKV) (cK kk) (cS ss))) q1 q2 rfl ⟨by rw [dput_conv], dput_ok q4 k2 s2⟩ hl.1
        exact ⟨p, _, rfl, .inl ⟨_, _, q3, rfl, Nat.lt_of_le_of_lt (by rw [List.length_map]; exact Nat.le_of_not_lt hl.2) (show 1000 < 2 ^ 24 by decide), rfl⟩, h' _ _ ow oa2 S3 Rn E4⟩
theorem aug_of {i : Nat} {e : E} (h : tSt T G W lk (.aug i e) D σ H) : tAug i (tE T G W e) (ipI fun i j => i + j) D σ H := by
  obtain ⟨B, H0, oa0, en, o, ow, oa, S, E0, h⟩ := h
  have h2 : GoodS T B H0 oa0 W lk ow oa H D (match en[i]? with
    | some (.val x) => (e.ev G en o).out fun r o => match x.d, r.d with
      | .int u, .int w => outO (put1 lk i false ⟨.int (u + w), .fz⟩ en) o
      | _, _ => .bad
    | _ => .bad) := h
  clear h
  cases hen : en[i]? with
  | none => rw [hen] at h2; exact h2.elim
  | some s =>
    rw [hen] at h2
    cases s with
    | val x =>
      obtain ⟨v, h1, h3, _⟩ := S.val i x hen
      refine ⟨v, h1, good_s S E0 h2 fun r o1 w H1 oa1 E1 R1 S1 E2 h => ?_⟩
      cases hd : x.d <;> rw [hd] at h <;> first | exact h.elim | skip
      cases hd2 : r.d <;> rw [hd2] at h <;> first | exact h.elim | skip
      rename_i n m
      obtain ⟨en', he, h⟩ := GoodS.outO h
      obtain ⟨q1, q2, q3, rfl⟩ := put1_val he
      rw [hd] at h3
      obtain ⟨ow', os, S2⟩ := S1.put (v := .int (n + m)) (.int _) q1 q2
      have := R_int S1 R1 hd2
      subst this
      exact ⟨n, m, h3.int_, rfl, h _ _ ow' oa1 S2 os.run E2⟩
    | _ => exact h2.elim
theorem drop_of {e : E} (h : tSt T G W lk (.drop e) D σ H) : tE T G W e σ H fun _ H1 => D.nx σ H1 := by
  obtain ⟨B, H0, oa0, en, o, ow, oa, S, E0, h⟩ := h
  exact good_s S E0 h fun r o1 w H1 oa1 E1 R1 S1 E2 h => h _ _ ow oa1 S1 .refl E2
theorem ret_of {e : E} (h : tSt T G W lk (.ret e) D σ H) : tE T G W e σ H D.rt := by
  obtain ⟨B, H0, oa0, en, o, ow, oa, S, E0, h⟩ := h
  have h2 : GoodS T B H0 oa0 W lk ow oa H D ((e.ev G en o).out fun r o => if r.k ≠ Kd.al then .ret r o else .bad) := h
  clear h
  refine ⟨B, H0, en, o, ow, oa, S, ?_⟩
  cases he : e.ev G en o with
  | exc c o1 =>
    rw [he] at h2
    exact fun H' oa' E1 => h2 σ H' oa' ((E0.ext S E1).out (S.ext E1))
  | bad =>
    rw [he] at h2
    exact h2
  | ok r o1 =>
    rw [he] at h2
    intro v H1 oa1 E1 R1
    obtain ⟨hk, h⟩ := GoodS.ite h2
    refine h v H1 oa1 ((E0.ext S E1).out (S.ext E1)) ?_
    cases hk2 : r.k with
    | al => exact absurd hk2 hk
    | fz =>
      have := R1.rep_fz hk2
      unfold RepR
      rw [hk2]
      exact Rep.bkw this fun b z => bk0 z
    | ex =>
      obtain ⟨p, e, p1, p2, p3, p4⟩ := R1.rep_ex hk2
      unfold RepR
      rw [hk2]
      exact ⟨p, e, h0_none S p1, p2, p3.bkw fun b z => bk0 z, p4.weak fun b z => z.imp_left bk0⟩
theorem retN_of (h : tSt T G W lk .retN D σ H) : D.rt .non H := by
  obtain ⟨B, H0, oa0, en, o, ow, oa, S, E0, h⟩ := h
  exact h _ _ oa (E0.out S) .non
theorem retOwn_of {i : Nat} (h : tSt T G W lk (.retOwn i) D σ H) : tVar i σ H D.rt := by
  obtain ⟨B, H0, oa0, en, o, ow, oa, S, E0, h⟩ := h
  have h2 : GoodS T B H0 oa0 W lk ow oa H D (match en[i]? with
    | some (.own xs) => .ret ⟨.lst xs, .ex⟩ o
    | _ => .bad) := h
  cases hen : en[i]? with
  | none => rw [hen] at h2; exact h2.elim
  | some s =>
    rw [hen] at h2
    cases s with
    | own xs =>
      obtain ⟨p, vs, h1, h3, h4, h5⟩ := S.own i xs hen
      obtain ⟨k1, k2, k3, k4, k5⟩ := S.ows i p h1
      have bw : ∀ b, bkS B ow0 oa b ∨ b = p → bkS B ow oa b := fun b z => z.elim bk0 fun z => .inr (.inl ⟨i, by rw [z]; exact h1⟩)
      have h3' : GoodS T B H0 oa0 W lk ow oa H D (.ret ⟨.lst xs, .ex⟩ o) := h2
      refine ⟨.ref p, h3, h3' _ H oa (E0.out S) ?_⟩
      show ∃ q, V.ref p = .ref q ∧ H0 q = none ∧ q ∉ oa ∧ (∃ vs, H q = some (.lst vs) ∧ Reps T H (fun b => bkS B ow0 oa b ∨ b = q) oa vs xs) ∧ Obs T H (fun b => bkS B ow0 oa b ∨ b = q) oa o
      exact ⟨p, rfl, k1, k3, ⟨vs, h4, Reps.bkw h5 bw⟩, S.obs.weak bw⟩
    | _ => exact h2.elim
end
end B
end

section
set_option Elab.async false
set_option linter.all false
set_option maxRecDepth 100000
set_option maxHeartbeats 1000000
/-! BT: branches, loops, rows of statements. -/
namespace B
open PySem PySem.Spec PyProof.Rows L2
section
variable {T : Stat} {G : Sg} {W : WX} {X : Cx} {B : Addr → Prop} {H0 H H1 H2 H' : Hp} {en en' : Env} {o o1 o2 o' : Objs} {σ σ' : St} {ow ow1 ow' : Nat → Option Addr} {oa oa0 oa1 oa2 oa' : List Addr} {bk bk' : Addr → Prop} {r : R} {v : V} {Q : VK} {lk : List Nat} {D : Ends}
variable {a b c tg : Expr} {es : List Expr} {ea eb ec : E} {ies : Es} {pos : Pos}
theorem ife_of {e : E} {p q : Ss} (h : tSt T G W lk (.ife e p q) D σ H) : tIfS (tT T G W e) (tSs T G W lk p) (tSs T G W lk q) D σ H := by
  obtain ⟨B, H0, oa0, en, o, ow, oa, S, E0, h⟩ := h
  refine good_s S E0 h fun r o1 v H1 oa1 E1 R1 S1 E2 h => ?_
  cases hd : r.d <;> rw [hd] at h <;> first | exact h.elim | skip
  rename_i k
  have t := R1.top S1
  rw [hd] at t
  refine ⟨k, t.bl_, ?_⟩
  cases k with
  | true => exact ⟨B, H0, oa0, en, o1, ow, oa1, S1, E2, h⟩
  | false => exact ⟨B, H0, oa0, en, o1, ow, oa1, S1, E2, h⟩
theorem It.ev_slots {it : It} {y : List _root_.B.D × List Nat} (h : it.ev G en o = .ok y o1) : ∀ i, i ∈ y.2 → i ∈ it.slots := by
  have bnd : ∀ {α β : Type} {x : Rs α} {f : α → Objs → Rs β} {b : β} {o' : Objs}, x.bind f = .ok b o' → ∃ a o, f a o = .ok b o' := by
    intro α β x f b o' h
    cases x with
    | ok a o => exact ⟨a, o, h⟩
    | exc => cases h
    | bad => cases h
  have of : ∀ {x : Option (List _root_.B.D × List Nat)} {o : Objs}, ofO o x = .ok y o1 → x = some y := by
    intro x o h
    cases x with
    | none => cases h
    | some z => cases h; rfl
  cases it with
  | lst e =>
    obtain ⟨r, o2, h⟩ := bnd h
    obtain ⟨xs, _, rfl⟩ := Option.map_eq_some_iff.mp (of h)
    exact fun _ h => h
  | enum e =>
    obtain ⟨r, o2, h⟩ := bnd h
    obtain ⟨xs, _, rfl⟩ := Option.map_eq_some_iff.mp (of h)
    exact fun _ h => h
  | tup e =>
    obtain ⟨r, o2, h⟩ := bnd h
    split at h <;> cases h
    exact fun _ h => h
  | str e =>
    obtain ⟨r, o2, h⟩ := bnd h
    split at h <;> cases h
    exact fun _ h => h
  | rng1 e =>
    obtain ⟨r, o2, h⟩ := bnd h
    split at h
    · split at h <;> cases h
      exact fun _ h => h
    · cases h
  | rng2 e f =>
    obtain ⟨r, o2, h⟩ := bnd h
    obtain ⟨r, o2, h⟩ := bnd h
    split at h
    · split at h <;> cases h
      exact fun _ h => h
    · cases h
  | rng3 e f g =>
    obtain ⟨r, o2, h⟩ := bnd h
    obtain ⟨r, o2, h⟩ := bnd h
    obtain ⟨r, o2, h⟩ := bnd h
    split at h
    · split at h <;> cases h
      exact fun _ h => h
    · cases h
  | zip e f =>
    obtain ⟨r, o2, h⟩ := bnd h
    obtain ⟨r, o2, h⟩ := bnd h
    obtain ⟨xs, _, h⟩ := Option.bind_eq_some_iff.mp (of h)
    obtain ⟨ys, _, rfl⟩ := Option.map_eq_some_iff.mp h
    exact fun _ h => h
  | zip3 e f g =>
    obtain ⟨r, o2, h⟩ := bnd h
    obtain ⟨r, o2, h⟩ := bnd h
    obtain ⟨r, o2, h⟩ := bnd h
    obtain ⟨xs, _, h⟩ := Option.bind_eq_some_iff.mp (of h)
    obtain ⟨ys, _, h⟩ := Option.bind_eq_some_iff.mp h
    obtain ⟨zs, _, rfl⟩ := Option.map_eq_some_iff.mp h
    exact fun _ h => h
  | zipS e f =>
    obtain ⟨r, o2, h⟩ := bnd h
    obtain ⟨r, o2, h⟩ := bnd h
    split at h <;> cases h
    exact fun _ h => h
  | any e =>
    obtain ⟨r, o2, h⟩ := bnd h
    split at h
    · cases h; exact fun i h => by cases h
    · cases h; exact fun i h => by cases h
    · obtain ⟨xs, _, rfl⟩ := Option.map_eq_some_iff.mp (of h)
      exact fun _ h => h
  | zipA e f =>
    obtain ⟨r, o2, h⟩ := bnd h
    obtain ⟨r, o2, h⟩ := bnd h
    split at h
    · cases h; exact fun i h => by cases h
    · obtain ⟨xs, _, h⟩ := Option.bind_eq_some_iff.mp (of h)
      obtain ⟨ys, _, rfl⟩ := Option.map_eq_some_iff.mp h
      exact fun _ h => h
theorem for_of {it : It} {tgt : Tg} {body : Ss} (hK : T.K = X.K) (h : tSt T G W lk (.for tgt it body) D σ H) : tFor (tI T G W it) (gT X.K tgt) (tSs T G W (it.slots ++ lk) body) D σ H := by
  obtain ⟨B, H0, oa0, en, o, ow, oa, S, E0, h⟩ := h
  refine ⟨B, H0, en, o, ow, oa, S, ?_⟩
  generalize hsl : it.slots ++ lk = sl at *
  have hlk : ∀ i, i ∈ lk → i ∈ sl := fun i hi => by rw [← hsl]; exact List.mem_append_right _ hi
  generalize hf : (fun (d : _root_.B.D) (en : Env) (o : Objs) => match putTg sl tgt d en with
        | some en => body.ev G sl en o
        | none => Out.bad) = f
  have h' : GoodS T B H0 oa0 W lk ow oa H D ((it.ev G en o).out fun x o => forGo f x.1 en o) := by
    rw [← hf, ← hsl]
    exact h
  clear h
  cases hi : it.ev G en o with
  | bad => rw [hi] at h'; exact h'
  | exc c o1 =>
    rw [hi] at h'
    exact fun H' oa' E1 => h' σ H' oa' ((E0.ext S E1).out (S.ext E1))
  | ok y o1 =>
    have hys := It.ev_slots hi
    rw [hi] at h'
    intro J H1 oa1 E1 wk
    have S1 := S.ext E1
    have h1 : GoodS T B H0 oa0 W lk ow oa1 H1 D (forGo f y.1 en o1) := GoodS.mono h' (Ext.run E1 S.obs) S.inj
    clear h'
    refine ⟨fun i m σ H => m = y.1.length - i ∧ i ≤ y.1.length ∧ ∃ en o ow2 oa2, SR T B H0 en o σ H ow2 oa2 ∧ Ent H0 oa0 oa2 ∧ Run sl ow oa1 H1 ow2 oa2 H ∧ GoodS T B H0 oa0 W lk ow oa1 H1 D (forGo f (y.1.drop i) en o),
      ⟨y.1.length, by simp, Nat.zero_le _, en, o1, ow, oa1, S1, E0.ext S E1, .refl, h1⟩, ?_⟩
    rintro i m σ H ⟨rfl, hi, en, o, ow2, oa2, S2, E2, Rn, h2⟩
    obtain ⟨w1, w2⟩ := wk ow2 oa2 H (Rn.less fun j hj => by rw [← hsl]; exact List.mem_append_left _ (hys j hj)) i
    by_cases hlt : i < y.1.length
    · refine .inr ?_
      obtain ⟨go, w1⟩ := w1 y.1[i] (List.getElem?_eq_getElem hlt)
      refine ⟨go, fun σ' H' => i + 1 ≤ y.1.length ∧ ∃ en o ow2 oa2, SR T B H0 en o σ' H' ow2 oa2 ∧ Ent H0 oa0 oa2 ∧ Run sl ow oa1 H1 ow2 oa2 H' ∧ GoodS T B H0 oa0 W lk ow oa1 H1 D (forGo f (y.1.drop (i + 1)) en o),
        fun σ' H' q => ⟨y.1.length - (i + 1), by omega, rfl, q⟩, fun x H' yl => ?_⟩
      obtain ⟨E3, rx⟩ := (w1 x H' yl).fz S2.obs
      have S3 := S2.ext E3
      have hdrop : y.1.drop i = y.1[i] :: y.1.drop (i + 1) := List.drop_eq_getElem_cons hlt
      rw [hdrop] at h2
      generalize y.1[i] = d at *
      have h4 : GoodS T B H0 oa0 W lk ow oa1 H1 D (match f d en o with
        | .next en o => forGo f (y.1.drop (i + 1)) en o
        | .cnt en o => forGo f (y.1.drop (i + 1)) en o
        | .brk en o => .next en o
        | x => x) := h2
      clear h2
      have fd : f d en o = match putTg sl tgt d en with
        | some en => body.ev G sl en o
        | none => Out.bad := by rw [← hf]
      cases hput : putTg sl tgt d en with
      | none =>
        rw [hput] at fd
        rw [fd] at h4
        exact h4.elim
      | some en2 =>
        rw [hput] at fd
        have fd : f d en o = body.ev G sl en2 o := fd
        refine put_tg hK S3 rx hput fun σ2 ow3 os S4 _ => ?_
        have R4 : Run sl ow oa1 H1 ow3 oa2 H' := Rn.trans S2.inj ((Ext.run E3 S2.obs).trans S3.inj os.run)
        refine ⟨B, H0, oa0, en2, o, ow3, oa2, S4, E2, ?_⟩
        rw [fd] at h4
        cases hb : body.ev G sl en2 o with
        | bad => rw [hb] at h4; exact h4.elim
        | exc c o3 => rw [hb] at h4; exact h4
        | ret r o3 => rw [hb] at h4; exact h4
        | next en3 o3 =>
          rw [hb] at h4
          exact fun σ' H3 ow4 oa4 S5 R5 E5 => ⟨by omega, en3, o3, ow4, oa4, S5, E5, R4.trans S4.inj R5, h4⟩
        | cnt en3 o3 =>
          rw [hb] at h4
          exact fun σ' H3 ow4 oa4 S5 R5 E5 => ⟨by omega, en3, o3, ow4, oa4, S5, E5, R4.trans S4.inj R5, h4⟩
        | brk en3 o3 =>
          rw [hb] at h4
          exact fun σ' H3 ow4 oa4 S5 R5 E5 => h4 σ' H3 ow4 oa4 S5 ((R4.trans S4.inj R5).less hlk) E5
    · refine .inl ⟨w2 (by omega), ?_⟩
      rw [List.drop_eq_nil_of_le (by omega)] at h2
      exact h2 σ H ow2 oa2 S2 (Rn.less hlk) E2
theorem whl_of {n : Nat} {e : E} {body : Ss} (h : tSt T G W lk (.whl n e body) D σ H) : tWhile (tT T G W e) (tSs T G W lk body) D σ H := by
  obtain ⟨B, H0, oa0, en, o, ow, oa, S, E0, h⟩ := h
  refine ⟨fun m σ H1 => ∃ en o ow2 oa2, SR T B H0 en o σ H1 ow2 oa2 ∧ Ent H0 oa0 oa2 ∧ Run lk ow oa H ow2 oa2 H1 ∧ GoodS T B H0 oa0 W lk ow2 oa2 H1 D (whlGo (e.ev G) (body.ev G lk) m en o), ⟨n, en, o, ow, oa, S, E0, .refl, h⟩, ?_⟩
  rintro m σ H1 ⟨en, o, ow2, oa2, S2, E2, Rn, h⟩
  cases m with
  | zero => exact h.elim
  | succ m =>
    have h2 : GoodS T B H0 oa0 W lk ow2 oa2 H1 D ((e.ev G en o).out fun x o => match x.d with
      | .bl false => .next en o
      | .bl true => match body.ev G lk en o with
        | .next en o => whlGo (e.ev G) (body.ev G lk) m en o
        | .cnt en o => whlGo (e.ev G) (body.ev G lk) m en o
        | .brk en o => .next en o
        | x => x
      | _ => .bad) := h
    clear h
    refine good_s S2 E2 h2 fun r o1 v H2 oa3 E3 R3 S3 E4 h => ?_
    cases hd : r.d <;> rw [hd] at h <;> first | exact h.elim | skip
    rename_i k
    have t := R3.top S3
    rw [hd] at t
    refine ⟨k, t.bl_, ?_⟩
    cases k with
    | false => exact h σ H2 ow2 oa3 S3 .refl E4
    | true =>
      simp only [if_true]
      have R0 : Run lk ow oa H ow2 oa3 H2 := Rn.trans S2.inj (Ext.run E3 S2.obs)
      have h3 : GoodS T B H0 oa0 W lk ow2 oa3 H2 D (match body.ev G lk en o1 with
        | .next en o => whlGo (e.ev G) (body.ev G lk) m en o
        | .cnt en o => whlGo (e.ev G) (body.ev G lk) m en o
        | .brk en o => .next en o
        | x => x) := h
      clear h
      refine ⟨fun σ' H' => ∃ en o ow4 oa4, SR T B H0 en o σ' H' ow4 oa4 ∧ Ent H0 oa0 oa4 ∧ Run lk ow oa H ow4 oa4 H' ∧ GoodS T B H0 oa0 W lk ow4 oa4 H' D (whlGo (e.ev G) (body.ev G lk) m en o), fun σ' H' q => ⟨m, by omega, q⟩, B, H0, oa0, en, o1, ow2, oa3, S3, E4, ?_⟩
      cases hb : body.ev G lk en o1 with
      | bad => rw [hb] at h3; exact h3.elim
      | exc c o3 => rw [hb] at h3; exact h3
      | ret r o3 => rw [hb] at h3; exact h3
      | next en3 o3 =>
        rw [hb] at h3
        exact fun σ' H3 ow4 oa4 S5 R5 E5 => ⟨en3, o3, ow4, oa4, S5, E5, R0.trans S3.inj R5, h3.mono R5 S5.inj⟩
      | cnt en3 o3 =>
        rw [hb] at h3
        exact fun σ' H3 ow4 oa4 S5 R5 E5 => ⟨en3, o3, ow4, oa4, S5, E5, R0.trans S3.inj R5, h3.mono R5 S5.inj⟩
      | brk en3 o3 =>
        rw [hb] at h3
        exact fun σ' H3 ow4 oa4 S5 R5 E5 => h3 σ' H3 ow4 oa4 S5 R5 E5
/-! ### rows of statements -/
theorem pss_weak {sts : List Stmt} {t t' : TS} (h : PSs X sts t) (w : ∀ D σ H, t' D σ H → t D σ H) : PSs X sts t' := ⟨fun pins s σ H D I q => h.run pins s σ H D I (w D σ H q)⟩
theorem ss_nil : PSs X [] (tSs T G W lk .nil) := pss_weak pss_nil fun D σ H ⟨B, H0, oa0, en, o, ow, oa, S, E0, h⟩ => h σ H ow oa S .refl E0
theorem ss_cons {st : Stmt} {sts : List Stmt} {s : S} {r : Ss} (h1 : PS X st (tSt T G W lk s)) (h2 : PSs X sts (tSs T G W lk r)) : PSs X (st :: sts) (tSs T G W lk (.cons s r)) :=
  pss_weak (pss_cons h1 h2) fun D σ H ⟨B, H0, oa0, en, o, ow, oa, S, E0, h⟩ => by
    refine ⟨B, H0, oa0, en, o, ow, oa, S, E0, ?_⟩
    have h' : GoodS T B H0 oa0 W lk ow oa H D ((s.ev G lk en o).seq fun en o => r.ev G lk en o) := h
    cases hs : s.ev G lk en o with
    | next en2 o2 =>
      rw [hs] at h'
      exact fun σ' H' ow' oa' S' R' E' => ⟨B, H0, oa0, en2, o2, ow', oa', S', E', GoodS.mono h' R' S'.inj⟩
    | ret => rw [hs] at h'; exact h'
    | exc => rw [hs] at h'; exact h'
    | brk => rw [hs] at h'; exact h'
    | cnt => rw [hs] at h'; exact h'
    | bad => rw [hs] at h'; exact h'
/-- an own list is frozen -/
theorem SR.freeze {i : Nat} {xs : List _root_.B.D} (S : SR T B H0 en o σ H ow oa) (h : en[i]? = some (.own xs)) (hl : i ∉ lk) : ∃ ow', OwSub lk [i] ow ow' ∧ SR T B H0 (en.set i (.val ⟨.lst xs, .fz⟩)) o σ H ow' oa := by
  obtain ⟨p, vs, h1, h2, h3, h4⟩ := S.own i xs h
  obtain ⟨k1, k2, k3, k4, k5⟩ := S.ows i p h1
  have hi : i < en.length := by
    obtain ⟨z, _⟩ := List.getElem?_eq_some_iff.mp h
    exact z
  have os : OwSub lk [i] ow (fun j => if j = i then none else ow j) := by
    refine ⟨fun j p h => ?_, fun j h => ?_, fun j h => ?_⟩
    · by_cases e : j = i
      · simp only [e, if_true] at h; cases h
      · simp only [e, if_false] at h; exact h
    · have e : j ≠ i := fun e => hl (e ▸ h)
      simp only [e, if_false]
    · have e : j ≠ i := fun e => h (List.mem_singleton.mpr e)
      simp only [e, if_false]
  have bw : ∀ b, bkS B (fun j => if j = i then none else ow j) oa b → bkS B ow oa b := fun b => os.bkk b
  have nb : ¬ bkS B (fun j => if j = i then none else ow j) oa p := by
    rintro (z | ⟨j, z⟩ | z)
    · exact k2 z
    · by_cases e : j = i
      · simp only [e, if_true] at z; cases z
      · simp only [e, if_false] at z
        exact e (S.inj j i p z h1)
    · exact k3 z
  refine ⟨_, os, by rw [List.length_set, S.len], S.amb, S.kept, S.obs.weak bw, fun j r e => ?_, fun j ys e => ?_, fun j ys e => ?_, fun j q e => ?_, fun j k p e e2 => S.inj j k p (os.sub _ _ e) (os.sub _ _ e2), fun j r a e hk hm e2 => ?_⟩
  · by_cases ej : i = j
    · subst ej
      rw [List.getElem?_set_self hi] at e
      cases e
      have : Rep T H (bkS B (fun j => if j = i then none else ow j) oa) oa (.ref p) (.lst xs) := .lst h3 nb (Reps.bkw h4 bw)
      exact ⟨.ref p, h2, this.top, fun _ => this⟩
    · rw [List.getElem?_set_ne ej] at e
      obtain ⟨w, h1, h2, h3⟩ := S.val j r e
      exact ⟨w, h1, RepT.bkw h2 bw, fun z => Rep.bkw (h3 z) bw⟩
  · by_cases ej : i = j
    · subst ej
      rw [List.getElem?_set_self hi] at e
      cases e
    · rw [List.getElem?_set_ne ej] at e
      obtain ⟨p, vs, h1, h2, h3, h4⟩ := S.own j ys e
      exact ⟨p, vs, by show (if j = i then none else ow j) = some p; rw [if_neg fun z => ej z.symm]; exact h1, h2, h3, Reps.bkw h4 bw⟩
  · by_cases ej : i = j
    · subst ej
      rw [List.getElem?_set_self hi] at e
      cases e
    · rw [List.getElem?_set_ne ej] at e
      obtain ⟨p, h1, h2, h3, h4⟩ := S.ownd j ys e
      exact ⟨p, by show (if j = i then none else ow j) = some p; rw [if_neg fun z => ej z.symm]; exact h1, h2, h3, h4⟩
  · obtain ⟨h1, h2, h3, h4, s, h5, h6⟩ := S.ows j q (os.sub _ _ e)
    have ej : i ≠ j := fun z => by simp only [z, if_true] at e; cases e
    exact ⟨h1, h2, h3, h4, s, by rw [List.getElem?_set_ne ej]; exact h5, h6⟩
  · by_cases ej : i = j
    · subst ej
      rw [List.getElem?_set_self hi] at e
      cases e
      cases hk
    · rw [List.getElem?_set_ne ej] at e
      exact S.alt j r a e hk hm e2
theorem ss_frz {i : Nat} {sts : List Stmt} {r : Ss} (h2 : PSs X sts (tSs T G W lk r)) : PSs X sts (tSs T G W lk (.frz i r)) :=
  pss_weak h2 fun D σ H ⟨B, H0, oa0, en, o, ow, oa, S, E0, h⟩ => by
    have h' : GoodS T B H0 oa0 W lk ow oa H D (match en[i]? with
      | some (.own xs) => if lk.contains i then .bad else r.ev G lk (en.set i (.val ⟨.lst xs, .fz⟩)) o
      | _ => .bad) := h
    clear h
    cases hen : en[i]? with
    | none => rw [hen] at h'; exact h'.elim
    | some s =>
      rw [hen] at h'
      cases s with
      | own xs =>
        by_cases c : lk.contains i = true
        · have h2 : GoodS T B H0 oa0 W lk ow oa H D (if lk.contains i = true then .bad else r.ev G lk (en.set i (.val ⟨.lst xs, .fz⟩)) o) := h'
          rw [if_pos c] at h2
          exact h2.elim
        · have h2 : GoodS T B H0 oa0 W lk ow oa H D (if lk.contains i = true then .bad else r.ev G lk (en.set i (.val ⟨.lst xs, .fz⟩)) o) := h'
          rw [if_neg c] at h2
          obtain ⟨ow', os, S2⟩ := S.freeze (lk := lk) hen fun z => c (List.contains_iff_mem.mpr z)
          exact ⟨B, H0, oa0, _, o, ow', oa, S2, E0, h2.mono os.run S2.inj⟩
      | _ => exact h'.elim
end
end B
end

section
set_option Elab.async false
set_option linter.all false
set_option maxRecDepth 100000
set_option maxHeartbeats 1000000
/-! BU: a def's rule. -/
namespace B
open PySem PySem.Spec PyProof.Rows L2
def Rs.isBad {α : Type} : Rs α → Bool
  | .bad => true
  | _ => false
section
variable {T : Stat} {G : Sg} {W : WX} {X : Cx} {B : Addr → Prop} {H0 H H1 H2 H' : Hp} {en en' : Env} {o o1 o2 o' : Objs} {σ σ' : St} {ow ow1 ow' : Nat → Option Addr} {oa oa0 oa1 oa2 oa' : List Addr} {bk bk' : Addr → Prop} {r : R} {v : V} {Q : VK} {lk : List Nat} {D : Ends}
theorem sr_start {rs : List R} {vs : List V} {N : List Str} (hB : ∀ b, B b → (∃ u, H b = some u ∧ mutO u = true) ∧ b ∉ oa) (O : Obs T H (bkS B ow0 oa) oa o) (ra : ARs T H (bkS B ow0 oa) oa vs rs) (hn : rs.length ≤ N.length) :
    SR T B H (rs.map Slot.val ++ List.replicate (N.length - rs.length) .none) o (L2.start N vs) H ow0 oa := by
  have hl : vs.length = rs.length := ra.length
  have at_ : ∀ {i : Nat} {s : Slot}, (rs.map Slot.val ++ List.replicate (N.length - rs.length) .none)[i]? = some s → s = .none ∨ ∃ r, rs[i]? = some r ∧ s = .val r := fun {i s} e => by
    by_cases h : i < rs.length
    · rw [List.getElem?_append_left (by rw [List.length_map]; exact h), List.getElem?_map] at e
      obtain ⟨r, h1, h2⟩ := Option.map_eq_some_iff.mp e
      exact .inr ⟨r, h1, h2.symm⟩
    · rw [List.getElem?_append_right (by rw [List.length_map]; omega)] at e
      exact .inl (List.mem_replicate.mp (List.mem_of_getElem? e)).2
  have val : ∀ (i : Nat) r, rs[i]? = some r → ∃ v, vs[i]? = some v ∧ RepT T H (bkS B ow0 oa) oa v r.d ∧ (r.k ≠ .al → Rep T H (bkS B ow0 oa) oa v r.d) := by
    clear at_ hn hl
    induction ra with
    | nil => intro i r e; cases e
    | cons h t ih =>
      intro i r e
      cases i with
      | zero => cases e; exact ⟨_, rfl, h⟩
      | succ i => exact ih i r e
  have vat : ∀ {i : Nat} {v : V}, vs[i]? = some v → (L2.start N vs)[i]? = some (some v) := fun {i v} e => by
    unfold L2.start
    have : i < vs.length := by
      obtain ⟨z, _⟩ := List.getElem?_eq_some_iff.mp e
      exact z
    rw [List.getElem?_append_left (by rw [List.length_map]; exact this), List.getElem?_map, e]
    rfl
  refine ⟨?_, hB, fun b u e _ => e, O, fun i r e => ?_, fun i xs e => ?_, fun i xs e => ?_, fun i p e => (nomatch e), fun i j p e => (nomatch e), fun i r a e hk hm e2 => ?_⟩
  · unfold L2.start
    simp
    omega
  · rcases at_ e with z | ⟨q, h1, h2⟩
    · cases z
    · cases h2
      obtain ⟨v, h3, h4⟩ := val i r h1
      exact ⟨v, vat h3, h4⟩
  · rcases at_ e with z | ⟨q, h1, h2⟩
    · cases z
    · cases h2
  · rcases at_ e with z | ⟨q, h1, h2⟩
    · cases z
    · cases h2
  · rcases at_ e with z | ⟨q, h1, h2⟩
    · cases z
    · cases h2
      obtain ⟨v, h3, h4, _⟩ := val i r h1
      rw [vat h3] at e2
      cases e2
      cases hd : r.d <;> rw [hd] at hm h4 <;> first | cases hm | skip
      · obtain ⟨a', ws, e, h5, _⟩ := h4.lst_
        cases e
        rw [h5]; simp
      · obtain ⟨a', e, h5, _⟩ := h4.dct_
        cases e
        rw [h5]; simp
/-- what a def's context grants -/
structure DefX (X : Cx) (k : Nat) (N : List Str) (sc : Scope) (K : PySem.W.Frag) (mg : Str → Option Value) (P : Program) (w : World) (base : Heap) : Prop where
  prog : X.prog = P
  wd : X.w = w
  K : X.K = K
  mg : X.mg = mg
  base : X.base = base
  N : X.N = N
  sc : X.env.scope = sc
  calm : X.calm = true
  room : Room k X.A
theorem def_ok {P : Program} {w : World} {K : PySem.W.Frag} {mg : Str → Option Value} {base : Heap} {x qual : Str} {st : Stmt} {f : Addr} {fd : FuncData} {N ps : List Str} {k : Nat} {F : List R → Objs → Rs R} {body : Ss} {n : Nat} (Fn : Fun K x qual st f fd) (S : FnScope N ps (defScope st)) (hn : ps.length = n) (hN : n ≤ N.length)
    (hF : ∀ rs o, (F rs o).isBad = false → runDef G body N.length rs o = F rs o)
    (hbody : ∀ (X : Cx) (W : WX), DefX X k N (defScope st) K mg P w base → Takes X W → PassesOwn (model X.prog X.w) X.A X.env X.xe → (∀ x, X.fn x = true) → PSs X (defBody st) (tSs T G W [] body)) : FnOk P w K mg base (L2.CX P w) (k + 1) f fd ps (spD T F n) := by
  refine Fn.okX S (fun vs H Q E h => h.1.trans hn.symm) (fun cdv A outer s H vs Q E hr h => ?_)
  refine ⟨_, hbody (cxOf (L2.CX P w) P w K mg base N qual (defScope st) f cdv A outer s H E) (fun cls d _ H => E cls d H) ⟨rfl, rfl, rfl, rfl, rfl, rfl, rfl, rfl, hr⟩ (takes_of rfl rfl rfl rfl) (passes_of rfl) (fun _ => rfl), ?_⟩
  obtain ⟨hl, B, rs, o, oa, hB, O, ra, q⟩ := h
  have hrs : rs.length = n := by rw [← hl]; exact ra.length.symm
  cases hb : (F rs o).isBad with
  | true =>
    cases hF2 : F rs o with
    | bad => rw [hF2] at q; exact q.elim
    | ok => rw [hF2] at hb; cases hb
    | exc => rw [hF2] at hb; cases hb
  | false =>
    have e := hF rs o hb
    refine ⟨B, H, oa, _, o, ow0, oa, sr_start hB O ra (by omega), ⟨fun _ _ e => e, fun _ h => .inl h⟩, ?_⟩
    unfold runDef at e
    rw [if_pos (by omega)] at e
    rw [← e] at q hb
    cases hx : body.ev G [] (rs.map Slot.val ++ List.replicate (N.length - rs.length) .none) o with
    | next en' o' =>
      rw [hx] at q
      exact fun σ' H' ow' oa' S' R' E' => q .non H' oa' (E'.out S') .non
    | ret r o' =>
      rw [hx] at q
      exact fun v H' oa' E1 R1 => q v H' oa' E1 R1
    | exc c o' =>
      rw [hx] at q
      exact fun σ' H' oa' E1 => q H' oa' E1
    | brk => rw [hx] at hb; cases hb
    | cnt => rw [hx] at hb; cases hb
    | bad => rw [hx] at hb; cases hb
end
end B
end

section
set_option Elab.async false
set_option linter.all false
set_option maxRecDepth 100000
set_option maxHeartbeats 1000000
/-! BV: rules by the data; the text's views. -/
namespace B
open PySem PySem.Spec PyProof.Rows L2
section
variable {T : Stat} {G : Sg} {W : WX} {X : Cx} {B : Addr → Prop} {H0 H H1 H2 H' : Hp} {en en' : Env} {o o1 o2 o' : Objs} {σ σ' : St} {ow ow1 ow' : Nat → Option Addr} {oa oa0 oa1 oa2 oa' : List Addr} {bk bk' : Addr → Prop} {r : R} {v : V} {Q : VK} {lk : List Nat} {D : Ends}
variable {a b c tg : Expr} {es : List Expr} {ea eb ec : E} {ies : Es} {pos : Pos}
theorem e_hole : PE X a (tE T G W .hole) := ⟨fun pins s σ H Q I ⟨B, H0, en, o, ow, oa, S, h⟩ => h.elim⟩
theorem w_hole : PW X a (tT T G W .hole) := ⟨fun wh pins s σ H Q I ⟨B, H0, en, o, ow, oa, S, h⟩ => h.elim⟩
theorem t_hole : PT X a (tT T G W .hole) := w_hole.pt
theorem e_two {e e1 e2 : E} (h1 : PE X a (tE T G W e1)) (h2 : PE X a (tE T G W e2)) (he : ∀ en o, e.ev G en o = e1.ev G en o ∨ e.ev G en o = e2.ev G en o) : PE X a (tE T G W e) :=
  ⟨fun pins s σ H Q I ⟨B, H0, en, o, ow, oa, S, h⟩ => by
    rcases he en o with z | z
    · exact h1.run pins s σ H Q I ⟨B, H0, en, o, ow, oa, S, by rw [← z]; exact h⟩
    · exact h2.run pins s σ H Q I ⟨B, H0, en, o, ow, oa, S, by rw [← z]; exact h⟩⟩
theorem bind_idx {α β : Type} {x : Rs α} {f g : α → Objs → Rs β} {h : α → Objs → Rs β} (k : ∀ a o, f a o = g a o ∨ f a o = h a o) : x.bind f = x.bind g ∨ x.bind f = x.bind h := by
  cases x with
  | ok a o => exact k a o
  | exc => exact .inl rfl
  | bad => exact .inl rfl
theorem e_ix (hK : T.K = X.K) (hu : X.A.units + 1 < cLine) (ha : PE X a (tE T G W ea)) (hb : PE X b (tE T G W eb)) (hs : PlainIx b) : PE X (.Subscript a b pos) (tE T G W (.ix ea eb)) :=
  e_two (e_idx hK ha hb hs) (e_didx hu ha hb hs) fun en o => by
    show (ea.ev G en o).bind _ = (ea.ev G en o).bind _ ∨ (ea.ev G en o).bind _ = (ea.ev G en o).bind _
    cases ea.ev G en o with
    | exc => exact .inl rfl
    | bad => exact .inl rfl
    | ok x o1 =>
      show (eb.ev G en o1).bind _ = (eb.ev G en o1).bind _ ∨ (eb.ev G en o1).bind _ = (eb.ev G en o1).bind _
      cases eb.ev G en o1 with
      | exc => exact .inl rfl
      | bad => exact .inl rfl
      | ok y o2 =>
        show ofO o2 (ixEv x.d y.d) = ofO o2 (idxEv x.d y.d) ∨ ofO o2 (ixEv x.d y.d) = ofO o2 (didxEv x.d y.d)
        unfold ixEv
        split
        · exact .inr rfl
        · exact .inl rfl
theorem i_two {it i1 i2 : It} (h1 : PI X tg a (tI T G W i1)) (h2 : PI X tg a (tI T G W i2)) (he : ∀ en o, it.ev G en o = i1.ev G en o ∨ it.ev G en o = i2.ev G en o) : PI X tg a (tI T G W it) :=
  ⟨fun pins s σ H R I ⟨B, H0, en, o, ow, oa, S, h⟩ => by
    rcases he en o with z | z
    · exact h1.run pins s σ H R I ⟨B, H0, en, o, ow, oa, S, by rw [← z]; exact h⟩
    · exact h2.run pins s σ H R I ⟨B, H0, en, o, ow, oa, S, by rw [← z]; exact h⟩⟩
theorem i_any (hK : T.K = X.K) (ha : PE X a (tE T G W ea)) (hs : PE X a (tE' T G W ea)) : PI X tg a (tI T G W (.any ea)) :=
  ⟨fun pins s σ H R I ⟨B, H0, en, o, ow, oa, S, h⟩ => by
    have h' : GoodIt T B ow W σ oa H ((ea.ev G en o).bind fun x o => match x.d with
      | .tup xs => .ok (xs, []) o
      | .str s => .ok (s.map fun c => .str [c], []) o
      | _ => ofO o ((itL ea.slot x).map fun xs => (xs, ea.slot))) R := h
    clear h
    cases he : ea.ev G en o with
    | bad => rw [he] at h'; exact h'.elim
    | exc c o1 =>
      rw [he] at h'
      refine (i_lst hs).run pins s σ H R I ⟨B, H0, en, o, ow, oa, S, ?_⟩
      show GoodIt T B ow W σ oa H ((ea.ev G en o).bind _) R
      rw [he]
      exact h'
    | ok r o1 =>
      rw [he] at h'
      have h2 : GoodIt T B ow W σ oa H (match r.d with
        | .tup xs => .ok (xs, []) o1
        | .str s => .ok (s.map fun c => .str [c], []) o1
        | _ => ofO o1 ((itL ea.slot r).map fun xs => (xs, ea.slot))) R := h'
      clear h'
      by_cases c1 : ∃ xs, r.d = .tup xs
      · obtain ⟨xs, hd⟩ := c1
        rw [hd] at h2
        refine (i_tup hK ha).run pins s σ H R I ⟨B, H0, en, o, ow, oa, S, ?_⟩
        show GoodIt T B ow W σ oa H ((ea.ev G en o).bind _) R
        rw [he]
        show GoodIt T B ow W σ oa H (match r.d with
          | .tup xs => .ok (xs, []) o1
          | _ => .bad) R
        rw [hd]
        exact h2
      · by_cases c2 : ∃ xs, r.d = .str xs
        · obtain ⟨xs, hd⟩ := c2
          rw [hd] at h2
          refine (i_str ha).run pins s σ H R I ⟨B, H0, en, o, ow, oa, S, ?_⟩
          show GoodIt T B ow W σ oa H ((ea.ev G en o).bind _) R
          rw [he]
          show GoodIt T B ow W σ oa H (match r.d with
            | .str s => .ok (s.map fun c => .str [c], []) o1
            | _ => .bad) R
          rw [hd]
          exact h2
        · refine (i_lst hs).run pins s σ H R I ⟨B, H0, en, o, ow, oa, S, ?_⟩
          show GoodIt T B ow W σ oa H ((ea.ev G en o).bind _) R
          rw [he]
          show GoodIt T B ow W σ oa H (ofO o1 ((itL ea.slot r).map fun xs => (xs, ea.slot))) R
          cases hd : r.d <;> rw [hd] at h2 <;> first | exact h2 | exact False.elim (c1 ⟨_, hd⟩) | exact False.elim (c2 ⟨_, hd⟩)⟩
/-! ### the text's views -/
def vNm : Expr → Option Str
  | .Name x _ => some x
  | _ => none
theorem vNm_ {x : Str} (h : vNm a = some x) : ∃ p, a = .Name x p := by cases a <;> first | (cases h; exact ⟨_, rfl⟩) | cases h
def vInt : Expr → Option Int
  | .Constant c _ _ => match c with
    | .int i => some i
    | _ => none
  | _ => none
theorem vInt_ {x : Int} (h : vInt a = some x) : ∃ j p, a = .Constant (.int x) j p := by
  cases a <;> first | cases h | skip
  rename_i c j p
  cases c <;> first | (cases h; exact ⟨_, _, rfl⟩) | cases h
def vStr : Expr → Option Str
  | .Constant c _ _ => match c with
    | .str i => some i
    | _ => none
  | _ => none
theorem vStr_ {x : Str} (h : vStr a = some x) : ∃ j p, a = .Constant (.str x) j p := by
  cases a <;> first | cases h | skip
  rename_i c j p
  cases c <;> first | (cases h; exact ⟨_, _, rfl⟩) | cases h
def vBl : Expr → Option Bool
  | .Constant c _ _ => match c with
    | .bool i => some i
    | _ => none
  | _ => none
theorem vBl_ {x : Bool} (h : vBl a = some x) : ∃ j p, a = .Constant (.bool x) j p := by
  cases a <;> first | cases h | skip
  rename_i c j p
  cases c <;> first | (cases h; exact ⟨_, _, rfl⟩) | cases h
def vNon : Expr → Bool
  | .Constant c _ _ => match c with
    | .none => true
    | _ => false
  | _ => false
theorem vNon_ (h : vNon a = true) : ∃ j p, a = .Constant .none j p := by
  cases a <;> first | cases h | skip
  rename_i c j p
  cases c <;> first | exact ⟨_, _, rfl⟩ | cases h
def vBin : Expr → Option (Expr × Operator × Expr)
  | .BinOp l op r _ => some (l, op, r)
  | _ => none
theorem vBin_ {l r : Expr} {op : Operator} (h : vBin a = some (l, op, r)) : ∃ p, a = .BinOp l op r p := by cases a <;> first | (cases h; exact ⟨_, rfl⟩) | cases h
def vCmp : Expr → Option (Expr × List CmpOp × List Expr)
  | .Compare l ops rs _ => some (l, ops, rs)
  | _ => none
theorem vCmp_ {l : Expr} {ops : List CmpOp} {rs : List Expr} (h : vCmp a = some (l, ops, rs)) : ∃ p, a = .Compare l ops rs p := by cases a <;> first | (cases h; exact ⟨_, rfl⟩) | cases h
def vUn : Expr → Option (UnaryOp × Expr)
  | .UnaryOp op x _ => some (op, x)
  | _ => none
theorem vUn_ {op : UnaryOp} {x : Expr} (h : vUn a = some (op, x)) : ∃ p, a = .UnaryOp op x p := by cases a <;> first | (cases h; exact ⟨_, rfl⟩) | cases h
def vBool : Expr → Option (BoolOp × List Expr × Pos)
  | .BoolOp op xs p => some (op, xs, p)
  | _ => none
theorem vBool_ {op : BoolOp} {x : List Expr} {p : Pos} (h : vBool a = some (op, x, p)) : a = .BoolOp op x p := by cases a <;> first | (cases h; rfl) | cases h
def vIf : Expr → Option (Expr × Expr × Expr)
  | .IfExp c x y _ => some (c, x, y)
  | _ => none
theorem vIf_ {x y z : Expr} (h : vIf a = some (x, y, z)) : ∃ p, a = .IfExp x y z p := by cases a <;> first | (cases h; exact ⟨_, rfl⟩) | cases h
/-- f(a, ..) by a name, no keywords -/
def vCall : Expr → Option (Str × List Expr × Pos × Pos)
  | .Call f as ks p => match f, ks with
    | .Name x p2, [] => some (x, as, p2, p)
    | _, _ => none
  | _ => none
theorem vCall_ {x : Str} {as : List Expr} {p p2 : Pos} (h : vCall a = some (x, as, p2, p)) : a = .Call (.Name x p2) as [] p := by
  cases a <;> first | cases h | skip
  rename_i f as' ks p'
  cases f <;> first | cases h | skip
  cases ks <;> first | (cases h; rfl) | cases h
/-- o.m(a, ..), no keywords -/
def vMeth : Expr → Option (Expr × Str × List Expr × Pos × Pos)
  | .Call f as ks p => match f, ks with
    | .Attribute o m p2, [] => some (o, m, as, p2, p)
    | _, _ => none
  | _ => none
theorem vMeth_ {ob : Expr} {x : Str} {as : List Expr} {p p2 : Pos} (h : vMeth a = some (ob, x, as, p2, p)) : a = .Call (.Attribute ob x p2) as [] p := by
  cases a <;> first | cases h | skip
  rename_i f as' ks p'
  cases f <;> first | cases h | skip
  cases ks <;> first | (cases h; rfl) | cases h
def vSub : Expr → Option (Expr × Expr)
  | .Subscript x i _ => some (x, i)
  | _ => none
theorem vSub_ {x i : Expr} (h : vSub a = some (x, i)) : ∃ p, a = .Subscript x i p := by cases a <;> first | (cases h; exact ⟨_, rfl⟩) | cases h
def vSlice : Expr → Option (Option Expr × Option Expr × Option Expr)
  | .Slice x y z _ => some (x, y, z)
  | _ => none
theorem vSlice_ {x y z : Option Expr} (h : vSlice a = some (x, y, z)) : ∃ p, a = .Slice x y z p := by cases a <;> first | (cases h; exact ⟨_, rfl⟩) | cases h
def vLst : Expr → Option (List Expr)
  | .List xs _ => some xs
  | _ => none
theorem vLst_ {xs : List Expr} (h : vLst a = some xs) : ∃ p, a = .List xs p := by cases a <;> first | (cases h; exact ⟨_, rfl⟩) | cases h
def vTup : Expr → Option (List Expr)
  | .Tuple xs _ _ => some xs
  | _ => none
theorem vTup_ {xs : List Expr} (h : vTup a = some xs) : ∃ k p, a = .Tuple xs k p := by cases a <;> first | (cases h; exact ⟨_, _, rfl⟩) | cases h
def vLc : Expr → Option (Expr × Expr × Expr × List Expr × Scope)
  | .ListComp elt gs sc _ => match gs with
    | [⟨tg, it, ifs, k⟩] => if k = 0 then some (elt, tg, it, ifs, sc) else none
    | _ => none
  | _ => none
theorem vLc_ {elt tg it : Expr} {ifs : List Expr} {sc : Scope} (h : vLc a = some (elt, tg, it, ifs, sc)) : ∃ p, a = .ListComp elt [⟨tg, it, ifs, 0⟩] sc p := by
  cases a <;> first | cases h | skip
  rename_i e gs s p
  match gs, h with
  | [⟨t, i, f, k⟩], h =>
    have h' : (if k = 0 then some (e, t, i, f, s) else none) = some (elt, tg, it, ifs, sc) := h
    rw [Option.ite_none_right_eq_some] at h'
    obtain ⟨rfl, h'⟩ := h'
    cases h'
    exact ⟨p, rfl⟩
  | [], h => cases h
  | ⟨_, _, _, _⟩ :: _ :: _, h => cases h
def notStar : Expr → Bool
  | .Starred _ _ => false
  | _ => true
theorem star_ {env : PySem.Env} (h : notStar a = true) : starEach (a :: es) env = (false, eval a env) :: starEach es env := by
  cases a <;> first | rfl | cases h
end
end B
end

section
set_option Elab.async false
set_option linter.all false
set_option maxRecDepth 100000
set_option maxHeartbeats 2000000
/-! BVz: zip of two texts, of three lists. -/
namespace B
open PySem PySem.Spec PyProof.Rows L2
/-- zip of two texts -/
def ItS2 (x y : Str) : L2.It :=
  ⟨fun i _ => i < x.cps.size ∧ i < y.cps.size, fun i H v H' => ∃ t c d, v = .ref t ∧ H t = none ∧ H' = upd H t (.tup [.str ⟨#[c]⟩, .str ⟨#[d]⟩]) ∧ x.cps[i]? = some c ∧ y.cps[i]? = some d, fun i _ => x.cps.size ≤ i ∨ y.cps.size ≤ i⟩
theorem turn_S2 {P : Program} {w : World} {K : PySem.W.Frag} {elts : List Expr} {kk : Nat} {tpos : Pos} {x y : Str} {t1 t2 : Tok} {z TI TO i1 i2 : Addr} (D : ZipSep2 z TI TO i1 i2 [i1] [i2]) :
    Turn P w K (.Tuple elts kk tpos) (ItS2 x y) [z, TI, TO, i1, i2] z (fun i h => IsZip h z TI TO .none ∧ IsTupOf2 h TI (.ref i1) (.ref i2) ∧ (∃ a b, IsTupOf2 h TO a b) ∧ h.IsStrIter i1 (strIterType x) x t1 i ∧ h.IsStrIter i2 (strIterType y) y t2 i ∧ i ≤ x.cps.size ∧ i ≤ y.cps.size) where
  mem := by simp
  obj := fun i h st c hc => by
    obtain ⟨hz, hTI, ⟨x, y, hTO⟩, ⟨o1, e1, _, d1⟩, ⟨o2, e2, _, d2⟩, _⟩ := st
    have e' : c = z ∨ c = TI ∨ c = TO ∨ c = i1 ∨ c = i2 := by simpa using hc
    rcases e' with q | q | q | q | q
    · rw [q]; exact ⟨_, hz, fun v q => nomatch q⟩
    · rw [q]; exact ⟨_, hTI, fun v q => nomatch q⟩
    · rw [q]; exact ⟨_, hTO, fun v q => nomatch q⟩
    · rw [q]; exact ⟨o1, e1, fun v q => by rw [d1] at q; cases q⟩
    · rw [q]; exact ⟨o2, e2, fun v q => by rw [d2] at q; cases q⟩
  keep := fun i h h' st k => by
    obtain ⟨hz, hTI, ⟨x, y, hTO⟩, ⟨o1, e1, r1⟩, ⟨o2, e2, r2⟩, hl⟩ := st
    exact ⟨k z (by simp) _ hz, k TI (by simp) _ hTI, ⟨x, y, k TO (by simp) _ hTO⟩, ⟨o1, k i1 (by simp) o1 e1, r1⟩, ⟨o2, k i2 (by simp) o2 e2, r2⟩, hl⟩
  item := by
    intro X hP hw hK hc i pins s σ H E I hf st hg
    subst hP hw hK
    obtain ⟨hz, hTI, ⟨x0, y0, hTO⟩, h1, h2, hl⟩ := st
    have hh : X.A.in1.handled = none := I.ok.hd hc
    have D1 := Draws.text (prog := X.prog) (w := X.w) hh i1 x t1
    have D2 := Draws.text (prog := X.prog) (w := X.w) hh i2 y t2
    have hzl : z < s.heap.objs.size := Heap.lt_size hz
    refine wpAny_pyNext_zipD2_item D D1 D2 hz hTI hTO h1 h2 hg.1 hg.2 fun x1 x2 h' tk ⟨c, u, hc1, e1⟩ ⟨d, u2, hd1, e2⟩ z' TO' h1' h2' hT hsz hk => ?_
    subst e1
    subst e2
    refine ⟨_, rfl, wpAny_letOwnedTupleGo_zip (s := { s with heap := h', toks := tk }) z' fun h'' z'' sb => ?_⟩
    have hT2 : h''.get? s.heap.objs.size = some { cls := .type "tuple", data := .seq #[.str ⟨#[c]⟩ u, .str ⟨#[d]⟩ u2] } := (sb.2 _ (Nat.ne_of_gt hzl)).trans hT
    have new : ObjOk X.prog X.w (upd H s.heap.objs.size (.tup [.str ⟨#[c]⟩, .str ⟨#[d]⟩])) h'' s.heap.objs.size (.tup [.str ⟨#[c]⟩, .str ⟨#[d]⟩]) :=
      ⟨by show 2 ≤ sizeLine; decide, [.str ⟨#[c]⟩ u, .str ⟨#[d]⟩ u2], .cons ⟨_, rfl⟩ (.cons ⟨_, rfl⟩ .nil), ⟨_, hT2, rfl, _, rfl⟩⟩
    have I1 : Inv X pins σ (upd H s.heap.objs.size (.tup [.str ⟨#[c]⟩, .str ⟨#[d]⟩])) { s with heap := h'', toks := tk } :=
      I.turnedNew (t' := tk) (ch := [z, TI, TO, i1, i2]) (fun c o hb q => (sb.2 c (fun q' => hb (by simp [q']))).trans (hk c o (fun q' => hb (by simp [q'])) (fun q' => hb (by simp [q'])) (fun q' => hb (by simp [q'])) (fun q' => hb (by simp [q'])) q)) hf (Nat.le_refl _) new
    refine ⟨.ref s.heap.objs.size, _, I1, rfl, ⟨_, c, d, rfl, I.hok.fresh (Nat.le_refl _), rfl, hc1, hd1⟩, ⟨z'', ?_, ⟨.str ⟨#[c]⟩ u, .str ⟨#[d]⟩ u2, ?_⟩, ?_, ?_, Nat.succ_le_of_lt hg.1, Nat.succ_le_of_lt hg.2⟩, fun c hcm => ?_⟩
    · exact (sb.2 _ D.TIz).trans (hk _ _ D.TIz D.TITO D.TIi1 D.TIi2 hTI)
    · exact (sb.2 _ D.TOz).trans TO'
    · obtain ⟨o1, e1, r1⟩ := h1'
      exact ⟨o1, (sb.2 _ (fun q => D.zi1 q.symm)).trans e1, r1⟩
    · obtain ⟨o1, e1, r1⟩ := h2'
      exact ⟨o1, (sb.2 _ (fun q => D.zi2 q.symm)).trans e1, r1⟩
    · have hlt : c < s.heap.objs.size := by
        have e' : c = z ∨ c = TI ∨ c = TO ∨ c = i1 ∨ c = i2 := by simpa using hcm
        rcases e' with q | q | q | q | q
        · rw [q]; exact hzl
        · rw [q]; exact Heap.lt_size hTI
        · rw [q]; exact Heap.lt_size hTO
        · rw [q]; obtain ⟨_, e1, _⟩ := h1; exact Heap.lt_size e1
        · rw [q]; obtain ⟨_, e2, _⟩ := h2; exact Heap.lt_size e2
      rw [upd_ne (Nat.ne_of_lt hlt)]
      exact (hf c hcm).1
  done := by
    intro X hP hw hK hc i pins s σ H E I hf st hg
    subst hP hw hK
    obtain ⟨hz, hTI, ⟨x0, y0, hTO⟩, h1, h2, l1, l2⟩ := st
    have hh : X.A.in1.handled = none := I.ok.hd hc
    have D1 := Draws.text (prog := X.prog) (w := X.w) hh i1 x t1
    have D2 := Draws.text (prog := X.prog) (w := X.w) hh i2 y t2
    have he : i = x.cps.size ∨ i = y.cps.size := hg.imp (fun q => by omega) fun q => by omega
    exact wpAny_pyNext_zipD2_end D D1 D2 hz hTI hTO h1 h2 l1 l2 he fun h' tk hk => ⟨rfl, I.turnedL (t' := tk) (ch := [z, TI, TO, i1, i2]) (fun c o hb q =>
      hk c o (fun q' => hb (by simp [q'])) (fun q' => hb (by simp [q'])) (fun q' => hb (by simp [q'])) (fun q' => hb (by simp [q'])) q) hf⟩
  self := fun A i s Q E st h => wpAny_pyIter_zip st.1 h
def iS2 (ta : TA) : TI := fun σ H R => ta σ H fun vs H1 => ∃ x y, vs = [.str x, .str y] ∧ R (ItS2 x y) H1
theorem pi_S2 {X : Cx} {e e2 : Expr} {ta : TA} {p pos tpos : Pos} {elts : List Expr} {kk : Nat} (hg : Gl X "zip") (hm : X.mg "zip" = none) (ha : PA X [e, e2] ta)
    (hs : starEach [e, e2] X.env = (false, eval e X.env) :: starEach [e2] X.env) (hpl : (backTo pos (starEach [e2] X.env)).any (·.1) = false) :
    PI X (.Tuple elts kk tpos) (.Call (.Name "zip" p) [e, e2] [] pos) (iS2 ta) := by
  refine ⟨fun pins s σ H R I h => ?_⟩
  refine Call_ (ld_blt I hg hm PyProof.Rows.boot_zip (PyProof.Rows.callWith_type1 (thn (ha.run pos pins s σ H _ I h) fun us s1 ⟨vs, H1, I1, r1, q1⟩ => ?_) hs hpl))
  obtain ⟨x, y, ex, q⟩ := q1
  subst ex
  cases r1 with
  | cons r rr =>
    cases rr with
    | cons r' rr =>
      cases rr
      obtain ⟨t1, rfl⟩ := r
      obtain ⟨t2, rfl⟩ := r'
      refine zip_begins2 (begins_text x t1) (begins_text y t2) trivial trivial fun h' hz hTI hTO g1 g2 hsz hk => wpAny_pyIter_zip hz ?_
      have I2 : Inv X pins σ H1 { s1 with heap := h' } := I1.kept (t' := s1.toks) hk
      have D : ZipSep2 (s1.heap.objs.size + 4) (s1.heap.objs.size + 2) (s1.heap.objs.size + 3) s1.heap.objs.size (s1.heap.objs.size + 1) [s1.heap.objs.size] [s1.heap.objs.size + 1] := by
        constructor <;> first | (simp; done) | (simp only [List.mem_singleton]; omega) | omega
      refine ⟨s1.heap.objs.size + 4, [s1.heap.objs.size + 4, s1.heap.objs.size + 2, s1.heap.objs.size + 3, s1.heap.objs.size, s1.heap.objs.size + 1], _, _, H1, rfl, I2, turn_S2 (t1 := t1) (t2 := t2) D, ⟨hz, hTI, ⟨_, _, hTO⟩, ⟨_, g1, rfl, rfl⟩, ⟨_, g2, rfl, rfl⟩, Nat.zero_le _, Nat.zero_le _⟩, fun c hcm => ?_, q⟩
      have e' : c = s1.heap.objs.size + 4 ∨ c = s1.heap.objs.size + 2 ∨ c = s1.heap.objs.size + 3 ∨ c = s1.heap.objs.size ∨ c = s1.heap.objs.size + 1 := by simpa using hcm
      have hle : s1.heap.objs.size ≤ c := by
        rcases e' with q | q | q | q | q <;> rw [q] <;> first | exact Nat.le_refl _ | exact Nat.le_add_right _ _
      exact I1.fpOk hle (I1.hok.fresh hle)
/-- zip of three lists -/
def ItZ3 (K : PySem.W.Frag) (a b c : Addr) : L2.It :=
  ⟨fun i H => ∃ (xs ys zs : List V) (x y z : V), SqL K H a xs ∧ SqL K H b ys ∧ SqL K H c zs ∧ xs[i]? = some x ∧ ys[i]? = some y ∧ zs[i]? = some z,
    fun i H v H' => ∃ t x y z, v = .ref t ∧ H t = none ∧ H' = upd H t (.tup [x, y, z]) ∧ (∀ xs, SqL K H a xs → xs[i]? = some x) ∧ (∀ ys, SqL K H b ys → ys[i]? = some y) ∧ ∀ zs, SqL K H c zs → zs[i]? = some z,
    fun i H => ∃ xs ys zs : List V, SqL K H a xs ∧ SqL K H b ys ∧ SqL K H c zs ∧ i ≤ xs.length ∧ i ≤ ys.length ∧ i ≤ zs.length ∧ (i = xs.length ∨ i = ys.length ∨ i = zs.length)⟩
theorem turn_Z3 {P : Program} {w : World} {K : PySem.W.Frag} {elts : List Expr} {kk : Nat} {tpos : Pos} {a b c z TI TO i1 i2 i3 : Addr} (D : ZipSep3 z TI TO i1 i2 i3 [i1, a] [i2, b] [i3, c]) (d1 : a ≠ i1) (d2 : b ≠ i2) (d3 : c ≠ i3) :
    Turn P w K (.Tuple elts kk tpos) (ItZ3 K a b c) [z, TI, TO, i1, i2, i3] z (fun i h => IsZip h z TI TO .none ∧ IsTupOf3 h TI (.ref i1) (.ref i2) (.ref i3) ∧ (∃ a b c, IsTupOf3 h TO a b c) ∧ h.IsListIter i1 a i ∧ h.IsListIter i2 b i ∧ h.IsListIter i3 c i) where
  mem := by simp
  obj := fun i h st e hc => by
    obtain ⟨hz, hTI, ⟨x, y, u, hTO⟩, ⟨o1, e1, _, d1⟩, ⟨o2, e2, _, d2⟩, ⟨o3, e3, _, d3⟩⟩ := st
    have e' : e = z ∨ e = TI ∨ e = TO ∨ e = i1 ∨ e = i2 ∨ e = i3 := by simpa using hc
    rcases e' with q | q | q | q | q | q
    · rw [q]; exact ⟨_, hz, fun v q => nomatch q⟩
    · rw [q]; exact ⟨_, hTI, fun v q => nomatch q⟩
    · rw [q]; exact ⟨_, hTO, fun v q => nomatch q⟩
    · rw [q]; exact ⟨o1, e1, fun v q => by rw [d1] at q; cases q⟩
    · rw [q]; exact ⟨o2, e2, fun v q => by rw [d2] at q; cases q⟩
    · rw [q]; exact ⟨o3, e3, fun v q => by rw [d3] at q; cases q⟩
  keep := fun i h h' st k => by
    obtain ⟨hz, hTI, ⟨x, y, u, hTO⟩, h1, h2, h3⟩ := st
    exact ⟨k z (by simp) _ hz, k TI (by simp) _ hTI, ⟨x, y, u, k TO (by simp) _ hTO⟩, h1.at fun o q => k i1 (by simp) o q, h2.at fun o q => k i2 (by simp) o q, h3.at fun o q => k i3 (by simp) o q⟩
  item := by
    intro X hP hw hK hc i pins s σ H E I hf st hg
    subst hP hw hK
    obtain ⟨hz, hTI, ⟨x0, y0, z0, hTO⟩, h1, h2, h3⟩ := st
    obtain ⟨xs, ys, zs, x, y, u, hqx, hqy, hqz, hx, hy, hu⟩ := hg
    obtain ⟨its, rv, p, _⟩ := I.list hqx
    obtain ⟨its2, rv2, p2, _⟩ := I.list hqy
    obtain ⟨its3, rv3, p3, _⟩ := I.list hqz
    obtain ⟨w1, hw1, rw1⟩ := rv.get hx
    obtain ⟨w2, hw2, rw2⟩ := rv2.get hy
    obtain ⟨w3, hw3, rw3⟩ := rv3.get hu
    have hh : X.A.in1.handled = none := I.ok.hd hc
    have D1 := Draws.list (prog := X.prog) (w := X.w) hh i1 a d1 its.toArray
    have D2 := Draws.list (prog := X.prog) (w := X.w) hh i2 b d2 its2.toArray
    have D3 := Draws.list (prog := X.prog) (w := X.w) hh i3 c d3 its3.toArray
    have b1 : i < its.toArray.size := by
      obtain ⟨q, _⟩ := List.getElem?_eq_some_iff.mp hw1
      simpa using q
    have b2 : i < its2.toArray.size := by
      obtain ⟨q, _⟩ := List.getElem?_eq_some_iff.mp hw2
      simpa using q
    have b3 : i < its3.toArray.size := by
      obtain ⟨q, _⟩ := List.getElem?_eq_some_iff.mp hw3
      simpa using q
    have hzl : z < s.heap.objs.size := Heap.lt_size hz
    refine wpAny_pyNext_zipD3_item D D1 D2 D3 hz hTI hTO ⟨h1, p.isList⟩ ⟨h2, p2.isList⟩ ⟨h3, p3.isList⟩ b1 b2 b3 fun x1 x2 x3 h' tk e1 e2 e3 z' TO' h1' h2' h3' hT hsz hk => ?_
    have e1 : w1 = x1 := by
      have : its[i]? = some x1 := by simpa using e1
      rw [hw1] at this
      exact Option.some.inj this
    have e2 : w2 = x2 := by
      have : its2[i]? = some x2 := by simpa using e2
      rw [hw2] at this
      exact Option.some.inj this
    have e3 : w3 = x3 := by
      have : its3[i]? = some x3 := by simpa using e3
      rw [hw3] at this
      exact Option.some.inj this
    subst e1
    subst e2
    subst e3
    refine ⟨_, rfl, wpAny_letOwnedTupleGo_zip (s := { s with heap := h', toks := tk }) z' fun h'' z'' sb => ?_⟩
    have hT2 : h''.get? s.heap.objs.size = some { cls := .type "tuple", data := .seq #[w1, w2, w3] } := (sb.2 _ (Nat.ne_of_gt hzl)).trans hT
    have new : ObjOk X.prog X.w (upd H s.heap.objs.size (.tup [x, y, u])) h'' s.heap.objs.size (.tup [x, y, u]) :=
      ⟨by show 3 ≤ sizeLine; decide, [w1, w2, w3], .cons rw1 (.cons rw2 (.cons rw3 .nil)), ⟨_, hT2, rfl, _, rfl⟩⟩
    have I1 : Inv X pins σ (upd H s.heap.objs.size (.tup [x, y, u])) { s with heap := h'', toks := tk } :=
      I.turnedNew (t' := tk) (ch := [z, TI, TO, i1, i2, i3]) (fun c o hb q => (sb.2 c (fun q' => hb (by simp [q']))).trans (hk c o (fun q' => hb (by simp [q'])) (fun q' => hb (by simp [q'])) (fun q' => hb (by simp [q'])) (fun q' => hb (by simp [q'])) (fun q' => hb (by simp [q'])) q)) hf (Nat.le_refl _) new
    refine ⟨.ref s.heap.objs.size, _, I1, rfl, ⟨_, x, y, u, rfl, I.hok.fresh (Nat.le_refl _), rfl, fun l hl => by rw [I.list_inj hl hqx]; exact hx, fun l hl => by rw [I.list_inj hl hqy]; exact hy, fun l hl => by rw [I.list_inj hl hqz]; exact hu⟩, ⟨z'', ?_, ⟨w1, w2, w3, ?_⟩, ?_, ?_, ?_⟩, fun c hcm => ?_⟩
    · exact (sb.2 _ D.TIz).trans (hk _ _ D.TIz D.TITO D.TIi1 D.TIi2 D.TIi3 hTI)
    · exact (sb.2 _ D.TOz).trans TO'
    · exact h1'.1.at fun o q => (sb.2 _ fun q => D.zi1 q.symm).trans q
    · exact h2'.1.at fun o q => (sb.2 _ fun q => D.zi2 q.symm).trans q
    · exact h3'.1.at fun o q => (sb.2 _ fun q => D.zi3 q.symm).trans q
    · have hlt : c < s.heap.objs.size := by
        have e' : c = z ∨ c = TI ∨ c = TO ∨ c = i1 ∨ c = i2 ∨ c = i3 := by simpa using hcm
        rcases e' with q | q | q | q | q | q
        · rw [q]; exact hzl
        · rw [q]; exact Heap.lt_size hTI
        · rw [q]; exact Heap.lt_size hTO
        · rw [q]; obtain ⟨_, e1, _⟩ := h1; exact Heap.lt_size e1
        · rw [q]; obtain ⟨_, e2, _⟩ := h2; exact Heap.lt_size e2
        · rw [q]; obtain ⟨_, e3, _⟩ := h3; exact Heap.lt_size e3
      rw [upd_ne (Nat.ne_of_lt hlt)]
      exact (hf c hcm).1
  done := by
    intro X hP hw hK hc i pins s σ H E I hf st hg
    subst hP hw hK
    obtain ⟨hz, hTI, ⟨x0, y0, z0, hTO⟩, h1, h2, h3⟩ := st
    obtain ⟨xs, ys, zs, hqx, hqy, hqz, l1, l2, l3, hend⟩ := hg
    obtain ⟨its, rv, p, _⟩ := I.list hqx
    obtain ⟨its2, rv2, p2, _⟩ := I.list hqy
    obtain ⟨its3, rv3, p3, _⟩ := I.list hqz
    have m1 := rv.length
    have m2 := rv2.length
    have m3 := rv3.length
    have hh : X.A.in1.handled = none := I.ok.hd hc
    have D1 := Draws.list (prog := X.prog) (w := X.w) hh i1 a d1 its.toArray
    have D2 := Draws.list (prog := X.prog) (w := X.w) hh i2 b d2 its2.toArray
    have D3 := Draws.list (prog := X.prog) (w := X.w) hh i3 c d3 its3.toArray
    exact wpAny_pyNext_zipD3_end D D1 D2 D3 hz hTI hTO ⟨h1, p.isList⟩ ⟨h2, p2.isList⟩ ⟨h3, p3.isList⟩ (by simp; omega) (by simp; omega) (by simp; omega) (by simp; omega) fun h' tk hk => ⟨rfl, I.turnedL (t' := tk) (ch := [z, TI, TO, i1, i2, i3]) (fun c o hb q =>
      hk c o (fun q' => hb (by simp [q'])) (fun q' => hb (by simp [q'])) (fun q' => hb (by simp [q'])) (fun q' => hb (by simp [q'])) (fun q' => hb (by simp [q'])) q) hf⟩
  self := fun A i s Q E st h => wpAny_pyIter_zip st.1 h
theorem nin2 {x y z : Nat} (h1 : x ≠ y) (h2 : x ≠ z) : x ∉ [y, z] := fun h => by
  rcases List.mem_cons.mp h with h | h
  · exact h1 h
  · exact h2 (List.mem_singleton.mp h)
theorem zs3 (n a b c : Nat) (ha : a < n) (hb : b < n) (hc : c < n) : ZipSep3 (n + 5) (n + 3) (n + 4) n (n + 1) (n + 2) [n, a] [n + 1, b] [n + 2, c] := by
  have k : ∀ {x y : Nat}, (x < y ∨ y < x) → x ≠ y := fun h => by omega
  exact ⟨k (by omega), k (by omega), k (by omega), k (by omega), List.mem_cons_self, nin2 (k (by omega)) (k (by omega)), nin2 (k (by omega)) (k (by omega)), k (by omega), List.mem_cons_self, nin2 (k (by omega)) (k (by omega)), nin2 (k (by omega)) (k (by omega)), k (by omega), List.mem_cons_self, nin2 (k (by omega)) (k (by omega)), nin2 (k (by omega)) (k (by omega)),
    nin2 (k (by omega)) (k (by omega)), nin2 (k (by omega)) (k (by omega)), nin2 (k (by omega)) (k (by omega)), nin2 (k (by omega)) (k (by omega)), nin2 (k (by omega)) (k (by omega)), nin2 (k (by omega)) (k (by omega))⟩
def iZ3 (K : PySem.W.Frag) (ta : TA) : TI := fun σ H R => ta σ H fun vs H1 => ∃ a b c xs ys zs, vs = [.ref a, .ref b, .ref c] ∧ SqL K H1 a xs ∧ SqL K H1 b ys ∧ SqL K H1 c zs ∧ R (ItZ3 K a b c) H1
theorem pi_Z3 {X : Cx} {e e2 e3 : Expr} {ta : TA} {p pos tpos : Pos} {elts : List Expr} {kk : Nat} (hg : Gl X "zip") (hm : X.mg "zip" = none) (ha : PA X [e, e2, e3] ta)
    (hs : starEach [e, e2, e3] X.env = (false, eval e X.env) :: starEach [e2, e3] X.env) (hpl : (backTo pos (starEach [e2, e3] X.env)).any (·.1) = false) :
    PI X (.Tuple elts kk tpos) (.Call (.Name "zip" p) [e, e2, e3] [] pos) (iZ3 X.K ta) := by
  refine ⟨fun pins s σ H R I h => ?_⟩
  refine Call_ (ld_blt I hg hm PyProof.Rows.boot_zip (PyProof.Rows.callWith_type1 (thn (ha.run pos pins s σ H _ I h) fun us s1 ⟨vs, H1, I1, r1, q1⟩ => ?_) hs hpl))
  obtain ⟨a, b, c, xs, ys, zs, ex, hqx, hqy, hqz, q⟩ := q1
  subst ex
  cases r1 with
  | cons r rr =>
    cases rr with
    | cons r' rr =>
      cases rr with
      | cons r'' rr =>
      cases rr
      cases r
      cases r'
      cases r''
      obtain ⟨its, rv, p1, _⟩ := I1.list hqx
      obtain ⟨its2, rv2, p2, _⟩ := I1.list hqy
      obtain ⟨its3, rv3, p3, _⟩ := I1.list hqz
      have la : a < s1.heap.objs.size := p1.lt
      have lb : b < s1.heap.objs.size := p2.lt
      have lc : c < s1.heap.objs.size := p3.lt
      refine zip_begins3 (begins_list a its.toArray) (begins_list b its2.toArray) (begins_list c its3.toArray) p1.isList p2.isList p3.isList fun h' hz hTI hTO g1 g2 g3 hsz hk => wpAny_pyIter_zip hz ?_
      have I2 : Inv X pins σ H1 { s1 with heap := h' } := I1.kept (t' := s1.toks) hk
      have D : ZipSep3 (s1.heap.objs.size + 5) (s1.heap.objs.size + 3) (s1.heap.objs.size + 4) s1.heap.objs.size (s1.heap.objs.size + 1) (s1.heap.objs.size + 2) [s1.heap.objs.size, a] [s1.heap.objs.size + 1, b] [s1.heap.objs.size + 2, c] := zs3 _ _ _ _ la lb lc
      refine ⟨s1.heap.objs.size + 5, [s1.heap.objs.size + 5, s1.heap.objs.size + 3, s1.heap.objs.size + 4, s1.heap.objs.size, s1.heap.objs.size + 1, s1.heap.objs.size + 2], _, _, H1, rfl, I2, turn_Z3 D (Nat.ne_of_lt la) (Nat.ne_of_lt (Nat.lt_add_right 1 lb)) (Nat.ne_of_lt (Nat.lt_add_right 2 lc)), ⟨hz, hTI, ⟨_, _, _, hTO⟩, ⟨_, g1, rfl, rfl⟩, ⟨_, g2, rfl, rfl⟩, ⟨_, g3, rfl, rfl⟩⟩, fun c hcm => ?_, q⟩
      have e' : c = s1.heap.objs.size + 5 ∨ c = s1.heap.objs.size + 3 ∨ c = s1.heap.objs.size + 4 ∨ c = s1.heap.objs.size ∨ c = s1.heap.objs.size + 1 ∨ c = s1.heap.objs.size + 2 := by simpa using hcm
      have hle : s1.heap.objs.size ≤ c := by
        rcases e' with q | q | q | q | q | q <;> rw [q] <;> first | exact Nat.le_refl _ | exact Nat.le_add_right _ _
      exact I1.fpOk hle (I1.hok.fresh hle)
section
variable {T : Stat} {G : Sg} {W : WX} {X : Cx} {B : Addr → Prop} {H0 H H1 H2 H' : Hp} {en en' : Env} {o o1 o2 o' : Objs} {σ σ' : St} {ow ow1 ow' : Nat → Option Addr} {oa oa0 oa1 oa2 oa' : List Addr} {bk bk' : Addr → Prop} {r : R} {v : V} {Q : VK} {lk : List Nat}
variable {a b c tg : Expr} {es : List Expr} {ea eb ec : E} {ies : Es} {pos : Pos}
theorem map_get_str {s : Txt} {i : Nat} {d : D} (h : (s.map fun c => D.str [c])[i]? = some d) : ∃ c, s[i]? = some c ∧ d = .str [c] := by
  rw [List.getElem?_map] at h
  obtain ⟨c, hc, e⟩ := Option.map_eq_some_iff.mp h
  exact ⟨c, hc, e.symm⟩
theorem i_zipS {p cpos tpos : Pos} {elts : List Expr} {kk : Nat} (hg : Gl X "zip") (hm : X.mg "zip" = none) (hs : starEach [a, b] X.env = (false, eval a X.env) :: starEach [b] X.env) (hs2 : starEach [b] X.env = (false, eval b X.env) :: starEach [] X.env) (hpl : (backTo cpos (starEach [b] X.env)).any (·.1) = false) (ha : PE X a (tE T G W ea)) (hb : PE X b (tE T G W eb)) : PI X (.Tuple elts kk tpos) (.Call (.Name "zip" p) [a, b] [] cpos) (tI T G W (.zipS ea eb)) :=
  pi_weak (pi_S2 hg hm (pa_cons ha (pa_cons hb pa_nil hs2) hs) hs hpl) fun σ H R ⟨B, H0, en, o, ow, oa, S, h⟩ => walk_b S h fun r o1 v H1 oa1 E1 R1 S1 h => walk_b S1 h fun r2 o2 v2 H2 oa2 E2 R2 S2 h => by
    cases hd : r.d <;> rw [hd] at h <;> first | exact h.elim | skip
    rename_i s
    cases hd2 : r2.d <;> rw [hd2] at h <;> first | exact h.elim | skip
    rename_i t
    have t1 := R1.top S1
    rw [hd] at t1
    have t2 := R2.top S2
    rw [hd2] at t2
    obtain ⟨rfl, k1⟩ := t1.str_
    obtain ⟨rfl, k2⟩ := t2.str_
    have h' : GoodIt T B ow W σ oa2 H2 (.ok (zipD (s.map fun c => .str [c]) (t.map fun c => .str [c]), []) o2) R := h
    refine ⟨tS s, tS t, rfl, h'.go S2 fun ow3 oa3 H3 Rn i => ⟨fun d hd => ?_, fun hl => ?_⟩⟩
    · obtain ⟨x, y, hx, hy, rfl⟩ := zipD_get _ _ _ _ hd
      obtain ⟨c, hc, rfl⟩ := map_get_str hx
      obtain ⟨c2, hc2, rfl⟩ := map_get_str hy
      have b1 : i < s.length := by
        obtain ⟨z, _⟩ := List.getElem?_eq_some_iff.mp hc
        exact z
      have b2 : i < t.length := by
        obtain ⟨z, _⟩ := List.getElem?_eq_some_iff.mp hc2
        exact z
      refine ⟨⟨by simpa [tS] using b1, by simpa [tS] using b2⟩, fun x H' ⟨q, c', d', e1, e2, e3, e4, e5⟩ => ?_⟩
      have e4' : s.toArray[i]? = some c' := e4
      rw [List.getElem?_toArray, hc] at e4'
      cases e4'
      have e5' : t.toArray[i]? = some d' := e5
      rw [List.getElem?_toArray, hc2] at e5'
      cases e5'
      refine .inr ⟨q, _, _, rfl, e1, e2, e3, .cons (.str (s := [c]) fun z hz => ?_) (.cons (.str (s := [c2]) fun z hz => ?_) .nil)⟩
      · rw [List.mem_singleton.mp hz]; exact k1 _ (List.mem_of_getElem? hc)
      · rw [List.mem_singleton.mp hz]; exact k2 _ (List.mem_of_getElem? hc2)
    · have hl : i = (zipD (s.map fun c => .str [c]) (t.map fun c => .str [c])).length := hl
      rw [zipD_len, List.length_map, List.length_map] at hl
      show s.toArray.size ≤ i ∨ t.toArray.size ≤ i
      simp
      omega
theorem i_zipA {p cpos tpos : Pos} {elts : List Expr} {kk : Nat} (hg : Gl X "zip") (hm : X.mg "zip" = none) (hs : starEach [a, b] X.env = (false, eval a X.env) :: starEach [b] X.env) (hs2 : starEach [b] X.env = (false, eval b X.env) :: starEach [] X.env) (hpl : (backTo cpos (starEach [b] X.env)).any (·.1) = false) (ha : PE X a (tE T G W ea)) (hb : PE X b (tE T G W eb)) (ha' : PE X a (tE' T G W ea)) (hb' : PE X b (tE' T G W eb)) : PI X (.Tuple elts kk tpos) (.Call (.Name "zip" p) [a, b] [] cpos) (tI T G W (.zipA ea eb)) :=
  i_two (i_zipS hg hm hs hs2 hpl ha hb) (i_zip hg hm hs hs2 hpl ha' hb') fun en o => by
    show (ea.ev G en o).bind _ = (ea.ev G en o).bind _ ∨ (ea.ev G en o).bind _ = (ea.ev G en o).bind _
    cases ea.ev G en o with
    | exc => exact .inl rfl
    | bad => exact .inl rfl
    | ok x o1 =>
      show (eb.ev G en o1).bind _ = (eb.ev G en o1).bind _ ∨ (eb.ev G en o1).bind _ = (eb.ev G en o1).bind _
      cases eb.ev G en o1 with
      | exc => exact .inl rfl
      | bad => exact .inl rfl
      | ok y o2 =>
        by_cases c1 : (∃ s, x.d = .str s) ∧ ∃ t, y.d = .str t
        · obtain ⟨⟨s, e1⟩, t, e2⟩ := c1
          refine .inl ?_
          show (match x.d, y.d with
            | .str xs, .str ys => Rs.ok (zipD (xs.map fun c => .str [c]) (ys.map fun c => .str [c]), ([] : List Nat)) o2
            | _, _ => ofO o2 ((itL ea.slot x).bind fun xs => (itL eb.slot y).map fun ys => (zipD xs ys, ea.slot ++ eb.slot))) = match x.d, y.d with
            | .str xs, .str ys => Rs.ok (zipD (xs.map fun c => .str [c]) (ys.map fun c => .str [c]), ([] : List Nat)) o2
            | _, _ => .bad
          rw [e1, e2]
        · refine .inr ?_
          show (match x.d, y.d with
            | .str xs, .str ys => Rs.ok (zipD (xs.map fun c => .str [c]) (ys.map fun c => .str [c]), ([] : List Nat)) o2
            | _, _ => ofO o2 ((itL ea.slot x).bind fun xs => (itL eb.slot y).map fun ys => (zipD xs ys, ea.slot ++ eb.slot))) = ofO o2 ((itL ea.slot x).bind fun xs => (itL eb.slot y).map fun ys => (zipD xs ys, ea.slot ++ eb.slot))
          split
          · rename_i s t e1 e2
            exact absurd ⟨⟨s, e1⟩, t, e2⟩ c1
          · rfl
theorem zip3D_get : ∀ (xs ys zs : List D) (i : Nat) (d : D), (zip3D xs ys zs)[i]? = some d → ∃ x y z, xs[i]? = some x ∧ ys[i]? = some y ∧ zs[i]? = some z ∧ d = .tup [x, y, z]
  | [], _, _, i, d, h => by simp [zip3D] at h
  | _ :: _, [], _, i, d, h => by simp [zip3D] at h
  | _ :: _, _ :: _, [], i, d, h => by simp [zip3D] at h
  | x :: xs, y :: ys, z :: zs, 0, d, h => by
    simp [zip3D] at h
    exact ⟨x, y, z, rfl, rfl, rfl, h.symm⟩
  | x :: xs, y :: ys, z :: zs, i + 1, d, h => zip3D_get xs ys zs i d h
theorem zip3D_len : ∀ (xs ys zs : List D), (zip3D xs ys zs).length = min xs.length (min ys.length zs.length)
  | [], _, _ => by simp [zip3D]
  | _ :: _, [], _ => by simp [zip3D]
  | _ :: _, _ :: _, [] => by simp [zip3D]
  | x :: xs, y :: ys, z :: zs => by simp [zip3D, zip3D_len xs ys zs]
theorem i_zip3 {p cpos tpos : Pos} {elts : List Expr} {kk : Nat} (hg : Gl X "zip") (hm : X.mg "zip" = none) (hs : starEach [a, b, c] X.env = (false, eval a X.env) :: starEach [b, c] X.env) (hs2 : starEach [b, c] X.env = (false, eval b X.env) :: starEach [c] X.env) (hs3 : starEach [c] X.env = (false, eval c X.env) :: starEach [] X.env) (hpl : (backTo cpos (starEach [b, c] X.env)).any (·.1) = false)
    (ha : PE X a (tE' T G W ea)) (hb : PE X b (tE' T G W eb)) (hc : PE X c (tE' T G W ec)) : PI X (.Tuple elts kk tpos) (.Call (.Name "zip" p) [a, b, c] [] cpos) (tI T G W (.zip3 ea eb ec)) :=
  pi_weak (pi_Z3 hg hm (pa_cons ha (pa_cons hb (pa_cons hc pa_nil hs3) hs2) hs) hs hpl) fun σ H R ⟨B, H0, en, o, ow, oa, S, h⟩ => walk_a S h fun r o1 v H1 oa1 E1 R1 S1 hv h => walk_a S1 h fun r2 o2 v2 H2 oa2 E2 R2 S2 hv2 h => walk_a S2 h fun r3 o3 v3 H3 oa3 E3 R3 S3 hv3 h => by
    obtain ⟨y, hy, h⟩ := GoodIt.ofO h
    obtain ⟨xs, hx, hy⟩ := Option.bind_eq_some_iff.mp hy
    obtain ⟨ys, hx2, hy⟩ := Option.bind_eq_some_iff.mp hy
    obtain ⟨zs, hx3, rfl⟩ := Option.map_eq_some_iff.mp hy
    obtain ⟨a, vs, rfl, h1, h2, h3⟩ := walked S1 R1 S.owt S.Bt hx hv
    obtain ⟨b, ws, rfl, k1, k2, k3⟩ := walked S2 R2 S1.owt S1.Bt hx2 hv2
    obtain ⟨c, us, rfl, l1, l2, l3⟩ := walked S3 R3 S2.owt S2.Bt hx3 hv3
    have E23 := Ext.trans E2 S1.obs E3
    refine ⟨a, b, c, vs, ws, us, rfl, sq_of (h3 _ _ _ (Ext.run E23 S1.obs)).1, sq_of (k3 _ _ _ (Ext.run E3 S2.obs)).1, sq_of l1, h.go S3 fun ow4 oa4 H4 Rn i => ?_⟩
    obtain ⟨h4, h5⟩ := h3 ow4 oa4 H4 (Run.behind E23 S1.obs Rn fun i hi => List.mem_append_left _ (List.mem_append_left _ hi))
    obtain ⟨k4, k5⟩ := k3 ow4 oa4 H4 (Run.behind E3 S2.obs Rn fun i hi => List.mem_append_left _ (List.mem_append_right _ hi))
    obtain ⟨l4, l5⟩ := l3 ow4 oa4 H4 (Run.behind (Ext.refl S3.obs) S3.obs Rn fun i hi => List.mem_append_right _ hi)
    refine ⟨fun d hd => ?_, fun hl => ⟨vs, ws, us, sq_of h4, sq_of k4, sq_of l4, by
      have hl : i = (zip3D xs ys zs).length := hl
      rw [zip3D_len] at hl
      rw [h5.len, k5.len, l5.len]
      omega⟩⟩
    obtain ⟨d1, d2, d3, hd1, hd2, hd3, rfl⟩ := zip3D_get _ _ _ _ _ hd
    obtain ⟨v, hv, rv⟩ := h5.get hd1
    obtain ⟨v', hv', rv'⟩ := k5.get hd2
    obtain ⟨v'', hv'', rv''⟩ := l5.get hd3
    exact ⟨⟨vs, ws, us, v, v', v'', sq_of h4, sq_of k4, sq_of l4, hv, hv', hv''⟩, fun x H' ⟨t, x', y', z', e1, e2, e3, e4, e5, e6⟩ => by
      have := e4 vs (sq_of h4)
      rw [hv] at this
      cases this
      have := e5 ws (sq_of k4)
      rw [hv'] at this
      cases this
      have := e6 us (sq_of l4)
      rw [hv''] at this
      cases this
      exact .inr ⟨t, _, [v, v', v''], rfl, e1, e2, e3, .cons rv (.cons rv' (.cons rv'' .nil))⟩⟩
/-! ### dict literals: texts to ints -/
def vDict : Expr → Option (List (Option Expr) × List Expr)
  | .Dict ks vs _ => some (ks, vs)
  | _ => none
theorem vDict_ {ks : List (Option Expr)} {vs : List Expr} (h : vDict a = some (ks, vs)) : ∃ p, a = .Dict ks vs p := by cases a <;> first | (cases h; exact ⟨_, rfl⟩) | cases h
def dlB : List (Txt × Int) → List (Option Expr) → List Expr → Bool
  | [], [], [] => true
  | (t, i) :: kvs, some k :: ks, v :: vs => decide (vStr k = some (tS t)) && (t.all fun c => decide (c < 1114112)) && decide (vInt v = some i) && dlB kvs ks vs
  | _, _, _ => false
theorem dl_pps : ∀ {kvs : List (Txt × Int)} {ks : List (Option Expr)} {vs : List Expr}, dlB kvs ks vs = true → PPs X pos ks vs (kvs.map fun p => (tC (.str (tS p.1)), tC (.int p.2))) ∧ ks.all (·.isSome) = true ∧ ks.length = vs.length ∧ ks.length = kvs.length ∧ ∀ p ∈ kvs, okT p.1
  | [], [], [], _ => ⟨pps_nil, rfl, rfl, rfl, fun p h => by cases h⟩
  | (t, i) :: kvs, some k :: ks, v :: vs, h => by
    simp only [dlB, Bool.and_eq_true, decide_eq_true_eq] at h
    obtain ⟨⟨⟨h1, h2⟩, h3⟩, h4⟩ := h
    obtain ⟨q1, q2, q3, q4, q5⟩ := dl_pps h4
    obtain ⟨j, p, rfl⟩ := vStr_ h1
    obtain ⟨j2, p2, rfl⟩ := vInt_ h3
    refine ⟨pps_cons pe_str pe_int q1, by simpa using q2, by simp [q3], by simp [q4], fun p hp => ?_⟩
    rcases List.mem_cons.mp hp with rfl | hp
    · intro c hc
      have := List.all_eq_true.mp h2 c hc
      simpa using this
    · exact q5 p hp
theorem tPairs_con {Q : List (V × V) → Hp → Prop} : ∀ {kvs : List (Txt × Int)}, Q (kvs.map fun p => (.str (tS p.1), .int p.2)) H → tPairs (kvs.map fun p => (tC (.str (tS p.1)), tC (.int p.2))) σ H Q := by
  intro kvs
  induction kvs generalizing Q with
  | nil => intro h; exact h
  | cons p r ih => intro h; exact ih (Q := fun ps H3 => Q ((.str (tS p.1), .int p.2) :: ps) H3) h
theorem merge_conv : ∀ (more kvs : List (DKey × Sc)), mergeK (kvs.map cKV) (more.map cKV) = (dmerge kvs more).map cKV
  | [], kvs => rfl
  | p :: r, kvs => by
    show mergeK (putK (kvs.map cKV) (cK p.1) (cS p.2)) (r.map cKV) = _
    rw [dput_conv, merge_conv r]
    rfl
theorem merge_ok : ∀ {more kvs : List (DKey × Sc)}, (∀ p ∈ kvs, okK p.1 ∧ okS p.2) → (∀ p ∈ more, okK p.1 ∧ okS p.2) → ∀ p ∈ dmerge kvs more, okK p.1 ∧ okS p.2
  | [], kvs, h, _ => h
  | q :: r, kvs, h, g => merge_ok (more := r) (dput_ok h (g q List.mem_cons_self).1 (g q List.mem_cons_self).2) fun p hp => g p (List.mem_cons_of_mem _ hp)
theorem e_dlit {kvs : List (Txt × Int)} {ks : List (Option Expr)} {vs : List Expr} (h : dlB kvs ks vs = true) (hl : kvs.length ≤ 15) : PE X (.Dict ks vs pos) (tE T G W (.dlit kvs)) := by
  obtain ⟨q1, q2, q3, q4, q5⟩ := dl_pps (X := X) (pos := pos) h
  have em : (kvs.map fun p : Txt × Int => ((.inr p.1, .int p.2) : DKey × Sc)).map cKV = kvs.map fun p => (.inr (tS p.1), .int p.2) := by rw [List.map_map]; rfl
  have ok : ∀ p ∈ dmerge [] (kvs.map fun p : Txt × Int => ((.inr p.1, .int p.2) : DKey × Sc)), okK p.1 ∧ okS p.2 := merge_ok (fun p h => by cases h) fun p hp => by
    obtain ⟨q, hq, rfl⟩ := List.mem_map.mp hp
    exact ⟨q5 q hq, trivial⟩
  have mc := merge_conv (kvs.map fun p : Txt × Int => ((.inr p.1, .int p.2) : DKey × Sc)) []
  rw [em] at mc
  cases ks with
  | nil =>
    cases kvs with
    | cons => simp at q4
    | nil =>
      cases vs with
      | cons => simp at q3
      | nil =>
        exact pe_weak pe_dnewK fun σ H Q ⟨B, H0, en, o, ow, oa, S, h⟩ p hp => Prim.good (r := ⟨.dct [], .ex⟩) S ⟨p, _, rfl, hp, rfl, rfl, fun q h => by cases h⟩ h
  | cons k ks =>
    refine pe_weak (pe_disp q1 q2 q3 (by simp) (by rw [q4]; exact hl)) fun σ H Q ⟨B, H0, en, o, ow, oa, S, h⟩ p hp => tPairs_con ⟨upd_same, kvs.map fun p => (.inr (tS p.1), .int p.2), ?_, by rw [List.length_map]; exact hl, ?_⟩
    · rw [List.map_map]; rfl
    · refine Prim.good (r := ⟨.dct (dmerge [] (kvs.map fun p => (.inr p.1, .int p.2))), .ex⟩) S ⟨p, _, rfl, hp, ?_, rfl, ok⟩ h
      rw [upd_upd, ← mc]
      rfl
end
end B
end

section
set_option Elab.async false
set_option linter.all false
set_option maxRecDepth 100000
set_option maxHeartbeats 2000000
/-! BW: the checker of expressions, and that it is sound. -/
namespace B
open PySem PySem.Spec PyProof.Rows L2
structure Ck where
  N : List Str
  fns : List (Nat × Str × Nat)
  cts : List (Nat × Str)
def bltNames : List Str := ["len", "abs", "max", "min", "all", "any", "str", "int", "list", "isinstance", "range", "enumerate", "zip", "bool", "tuple", "set", "sorted", "dict"]
/-- what a context grants -/
structure CxG (C : Ck) (T : Stat) (G : Sg) (X : Cx) (sc : Scope) (W : WX) : Prop where
  K : T.K = X.K
  calm : X.calm = true
  N : X.N = C.N
  nd : C.N.Nodup
  sc : X.env.scope = sc
  u : X.A.units + 64 < cLine
  tk : Takes X W
  fns : ∀ j x n, C.fns.lookup j = some (x, n) → ∃ k f fd ps, FnOk X.prog X.w X.K X.mg X.base (L2.CX X.prog X.w) k f fd ps (spD T (G.fn j) n) ∧ Room k X.A ∧ X.mg x = some (.ref f) ∧ PySem.W.keepIn X.K (.ref f) = true ∧ Binds X.K fd ps []
  cts : ∀ j x, C.cts.lookup j = some x → ∃ u v, X.mg x = some u ∧ RelV v u ∧ ∀ H bk oa, Rep T H bk oa v (G.ct j)
  blt : ∀ x ∈ bltNames, X.mg x = none
def visB (sc : Scope) (x : Str) : Bool := decide (sc.names.lookup x = some .local) || decide (sc.names.lookup x = some .cell) || decide (sc.names.lookup x = some .free)
def glB (sc : Scope) (x : Str) : Bool := decide (sc.names.lookup x = some .globalImplicit)
def nd2 (x : Str) : Bool := !(x == ("__debug__" : Str)) && !(x == ("__classdict__" : Str))
def okTB (s : Txt) : Bool := s.all fun c => decide (c < 1114112)
def opB (p : Op) : Operator → Bool
  | .Add => decide (p = .add) || decide (p = .addI)
  | .Sub => decide (p = .subI)
  | .Mult => decide (p = .mul) || decide (p = .mulI)
  | .FloorDiv => decide (p = .fdivI)
  | .Mod => decide (p = .modI)
  | .Pow => decide (p = .powI)
  | _ => false
def cmpB (p : Op) : CmpOp → Bool
  | .Eq => decide (p = .eqD)
  | .NotEq => decide (p = .neD)
  | .Lt => decide (p = .ltI)
  | .LtE => decide (p = .leI)
  | .Gt => decide (p = .gtI)
  | .GtE => decide (p = .geI)
  | .Is => decide (p = .is_)
  | .IsNot => decide (p = .isNot)
  | .In => decide (p = .in_)
  | .NotIn => decide (p = .notIn)
def ptB : Expr → Bool
  | .IfExp _ _ _ _ => false
  | _ => true
def boB : Expr → Bool
  | .BoolOp _ _ _ => true
  | _ => false
def biNm : Bi → Option Str
  | .len => some "len" | .abs => some "abs" | .max => some "max" | .min => some "min" | .all => some "all" | .any => some "any" | .str => some "str" | .int => some "int" | .list => some "list"
  | _ => none
def mtNm : Mt → Option Str
  | .join => some "join" | .starts => some "startswith" | .indexS => some "index"
  | _ => none
def tyNm : Ty → Option Str
  | .int => some "int" | .str => some "str" | .bool => some "bool" | .list => some "list" | .tuple => some "tuple"
  | _ => none
def noCall0 : Expr → Bool
  | .Call _ [] [] _ => false
  | _ => true
def isSet : Expr → Bool
  | .Set _ _ _ => true
  | _ => false
def isSlice : Expr → Bool
  | .Slice _ _ _ _ => true
  | _ => false
def locC (sc : Scope) (x : Str) : Bool := decide (sc.names.lookup x = some .local) || decide (sc.names.lookup x = some .cell)
def locB (sc : Scope) (x : Str) : Bool := decide (sc.names.lookup x = some .local)
/-- a target's names -/
def tgL (ce : Bool) (N : List Str) (sc : Scope) : List Nat → List Expr → Bool
  | [], [] => true
  | i :: is, a :: as => (match vNm a with
    | some x => decide (N[i]? = some x) && (locB sc x || (ce && locC sc x))
    | none => false) && tgL ce N sc is as
  | _, _ => false
def tgB (ce : Bool) (N : List Str) (sc : Scope) (tg : Tg) (a : Expr) : Bool := match tg with
  | .one i => match vNm a with
    | some x => decide (N[i]? = some x) && (locB sc x || (ce && locC sc x))
    | none => false
  | .many is => match vTup a with
    | some as => tgL ce N sc is as && as.all notStar
    | none => false
def isTupE (a : Expr) : Bool := (vTup a).isSome
mutual
def ckE (C : Ck) : Scope → E → Expr → Bool
  | _, .hole, _ => true
  | sc, .var i, a => match vNm a with
    | some x => decide (C.N[i]? = some x) && visB sc x && nd2 x
    | none => false
  | _, .int i, a => decide (vInt a = some i)
  | _, .str s, a => decide (vStr a = some (tS s)) && okTB s
  | _, .bl b, a => decide (vBl a = some b)
  | _, .non, a => vNon a
  | sc, .glb j, a => match vNm a with
    | some x => decide (C.cts.lookup j = some x) && glB sc x && nd2 x
    | none => false
  | sc, .op p x y, a => match vBin a with
    | some (l, op, r) => opB p op && ckE C sc x l && ckE C sc y r
    | none => match vCmp a with
      | some (l, [op], [r]) => cmpB p op && !behindInMarks op r && ckE C sc x l && ckE C sc y r
      | _ => false
  | sc, .neg x, a => match vUn a with
    | some (.USub, y) => ckE C sc x y
    | _ => false
  | sc, .chain p q x y z, a => match vCmp a with
    | some (l, [o1, o2], [m, r]) => cmpB p o1 && cmpB q o2 && !lastMarks [o1, o2] [m, r] && ckE C sc x l && ckE C sc y m && ckE C sc z r
    | _ => false
  | sc, .and x y, a => match vBool a with
    | some (.And, l :: r :: rest, p) => ptB l && ckE C sc x l && ckE C sc y (.BoolOp .And (r :: rest) p)
    | _ => false
  | sc, .or x y, a => match vBool a with
    | some (.Or, l :: r :: rest, p) => ptB l && ckE C sc x l && ckE C sc y (.BoolOp .Or (r :: rest) p)
    | _ => false
  | sc, .one x, a => match vBool a with
    | some (_, [l], _) => ptB l && ckE C sc x l
    | _ => false
  | sc, .not x, a => match vUn a with
    | some (.Not, y) => ptB y && ckE C sc x y
    | _ => false
  | sc, .ife c x y, a => match vIf a with
    | some (ac, ax, ay) => ptB ac && ckE C sc c ac && ckE C sc x ax && ckE C sc y ay
    | none => false
  | sc, .call f as, a => match vCall a with
    | some (x, b :: bs, _, _) => decide (C.fns.lookup f = some (x, as.len)) && glB sc x && nd2 x && (b :: bs).all notStar && ckEs C sc as (b :: bs)
    | _ => false
  | sc, .bi b as, a => match vCall a with
    | some (x, c :: cs, _, _) => decide (biNm b = some x) && glB sc x && (c :: cs).all notStar && ckEs C sc as (c :: cs)
    | _ => false
  | sc, .isi x t, a => match vCall a with
    | some (f, [l, ty], _, _) => decide (f = ("isinstance" : Str)) && glB sc "isinstance" && notStar l && ckE C sc x l && (match vNm ty, tyNm t with
      | some y, some z => decide (y = z) && glB sc y
      | _, _ => false)
    | _ => false
  | sc, .mt m o as, a => match vMeth a with
    | some (ob, x, c :: cs, p2, p) => decide (mtNm m = some x) && noCall0 ob && (p2.endLine == p.line) && decide ((c :: cs).length < 29) && (c :: cs).all notStar && ckE C sc o ob && ckEs C sc as (c :: cs)
    | _ => false
  | sc, .idx x i, a => match vSub a with
    | some (ax, ai) => !isSlice ai && ckE C sc x ax && ckE C sc i ai
    | none => false
  | sc, .didx x i, a => match vSub a with
    | some (ax, ai) => !isSlice ai && ckE C sc x ax && ckE C sc i ai
    | none => false
  | sc, .ix x i, a => match vSub a with
    | some (ax, ai) => !isSlice ai && ckE C sc x ax && ckE C sc i ai
    | none => false
  | sc, .sl x lo hi, a => match vSub a with
    | some (ax, s) => (match vSlice s with
      | some (l, h, none) => ckE C sc x ax && (match l with
        | none => lo.isHole
        | some l => !lo.isHole && ckE C sc lo l) && (match h with
        | none => hi.isHole
        | some l => !hi.isHole && ckE C sc hi l)
      | _ => false)
    | none => false
  | sc, .lst as, a => match vLst a with
    | some es => es.all notStar && ckEs C sc as es
    | none => false
  | sc, .tup as, a => match vTup a with
    | some es => es.all notStar && ckEs C sc as es
    | none => false
  | sc, .lc elt tg it c, a => match vLc a with
    | some (ae, atg, ai, ifs, s) => !isSet ai && blkC C.N sc s ((tgIx tg).map fun i : Nat => ((C.N[i]?).getD ("" : Str), i)) && tgB false C.N (relS s sc) tg atg && ckIt C sc it atg ai && ckE C (relS s sc) elt ae && (match ifs with
      | [] => c.isHole
      | [x] => !c.isHole && ptB x && ckE C (relS s sc) c x
      | _ => false)
    | none => false
  | _, .dlit kvs, a => match vDict a with
    | some (ks, vs) => dlB kvs ks vs && decide (kvs.length ≤ 15)
    | none => false
  | _, _, _ => false
def ckEs (C : Ck) : Scope → Es → List Expr → Bool
  | _, .nil, [] => true
  | sc, .cons e r, a :: as => ckE C sc e a && ckEs C sc r as
  | _, _, _ => false
def ckIt (C : Ck) : Scope → It → Expr → Expr → Bool
  | sc, .lst e, _, a => ckE C sc e a
  | sc, .tup e, _, a => ckE C sc e a
  | sc, .str e, _, a => ckE C sc e a
  | sc, .any e, _, a => ckE C sc e a
  | sc, .rng1 e, _, a => match vCall a with
    | some (f, [x], _, _) => decide (f = ("range" : Str)) && glB sc "range" && notStar x && ckE C sc e x
    | _ => false
  | sc, .rng2 e g, _, a => match vCall a with
    | some (f, [x, y], _, _) => decide (f = ("range" : Str)) && glB sc "range" && [x, y].all notStar && ckE C sc e x && ckE C sc g y
    | _ => false
  | sc, .rng3 e g h, _, a => match vCall a with
    | some (f, [x, y, z], _, _) => decide (f = ("range" : Str)) && glB sc "range" && [x, y, z].all notStar && ckE C sc e x && ckE C sc g y && ckE C sc h z
    | _ => false
  | sc, .enum e, t, a => match vCall a with
    | some (f, [x], _, _) => decide (f = ("enumerate" : Str)) && glB sc "enumerate" && isTupE t && notStar x && ckE C sc e x
    | _ => false
  | sc, .zip e g, t, a => match vCall a with
    | some (f, [x, y], _, _) => decide (f = ("zip" : Str)) && glB sc "zip" && isTupE t && [x, y].all notStar && ckE C sc e x && ckE C sc g y
    | _ => false
  | sc, .zipS e g, t, a => match vCall a with
    | some (f, [x, y], _, _) => decide (f = ("zip" : Str)) && glB sc "zip" && isTupE t && [x, y].all notStar && ckE C sc e x && ckE C sc g y
    | _ => false
  | sc, .zipA e g, t, a => match vCall a with
    | some (f, [x, y], _, _) => decide (f = ("zip" : Str)) && glB sc "zip" && isTupE t && [x, y].all notStar && ckE C sc e x && ckE C sc g y
    | _ => false
  | sc, .zip3 e g h, t, a => match vCall a with
    | some (f, [x, y, z], _, _) => decide (f = ("zip" : Str)) && glB sc "zip" && isTupE t && [x, y, z].all notStar && ckE C sc e x && ckE C sc g y && ckE C sc h z
    | _ => false
end
section
variable {C : Ck} {T : Stat} {G : Sg} {W : WX} {X : Cx} {sc : Scope}
variable {a b c tg : Expr} {es : List Expr} {ea eb ec : E} {ies : Es} {pos : Pos}
theorem visB_ {x : Str} (h : visB sc x = true) : Vis sc x := by
  unfold visB at h
  simp only [Bool.or_eq_true, decide_eq_true_eq] at h
  rcases h with (h | h) | h
  · exact .inl h
  · exact .inr (.inl h)
  · exact .inr (.inr h)
theorem nd2_ {x : Str} (h : nd2 x = true) : (x == ("__debug__" : Str)) = false ∧ (x == ("__classdict__" : Str)) = false := by
  unfold nd2 at h
  simpa using h
theorem okTB_ {s : Txt} (h : okTB s = true) : okT s := fun c hc => by
  have := List.all_eq_true.mp h c hc
  simpa using this
theorem CxG.gl (g : CxG C T G X sc W) {x : Str} (h : glB sc x = true) : Gl X x := by
  unfold glB at h
  rw [← g.sc] at h
  have : X.env.scope.names.lookup x = some .globalImplicit := of_decide_eq_true h
  exact this
theorem opB_ (g : CxG C T G X sc W) {p : Op} {op : Operator} (h : opB p op = true) : OpR X (binaryOp op) (rV T p.evR) := by
  cases op <;> simp only [opB, Bool.or_eq_true, decide_eq_true_eq, reduceCtorEq, Bool.false_eq_true] at h
  · rcases h with rfl | rfl
    · exact ok_add
    · exact ok_addI
  · subst h; exact ok_subI
  · rcases h with rfl | rfl
    · exact ok_mul g.K
    · exact ok_mulI
  · subst h; exact ok_modI
  · subst h; exact ok_powI
  · subst h; exact ok_fdivI
theorem cmpB_ (g : CxG C T G X sc W) {p : Op} {op : CmpOp} (h : cmpB p op = true) : OpR X (compareOp op) (rV T p.evR) ∧ ∀ d, p.kd d = .fz := by
  cases op <;> simp only [cmpB, decide_eq_true_eq] at h <;> subst h
  · exact ⟨ok_eqD g.K g.u, fun _ => rfl⟩
  · exact ⟨ok_neD g.K g.u, fun _ => rfl⟩
  · exact ⟨ok_ltI, fun _ => rfl⟩
  · exact ⟨ok_leI, fun _ => rfl⟩
  · exact ⟨ok_gtI, fun _ => rfl⟩
  · exact ⟨ok_geI, fun _ => rfl⟩
  · exact ⟨ok_is, fun _ => rfl⟩
  · exact ⟨ok_isNot, fun _ => rfl⟩
  · exact ⟨ok_in g.K, fun _ => rfl⟩
  · exact ⟨ok_notIn g.K, fun _ => rfl⟩
theorem back_any {env : PySem.Env} : ∀ {es : List Expr}, es.all notStar = true → (backTo pos (starEach es env)).any (·.1) = false
  | [], _ => rfl
  | e :: es, h => by
    rw [List.all_cons, Bool.and_eq_true] at h
    rw [star_ h.1]
    exact back_any h.2
theorem back_all {env : PySem.Env} : ∀ {es : List Expr}, es.all notStar = true → (backTo pos (starEach es env)).all (fun x => !x.1) = true
  | [], _ => rfl
  | e :: es, h => by
    rw [List.all_cons, Bool.and_eq_true] at h
    rw [star_ h.1]
    exact back_all h.2
theorem all_tl {e : Expr} {es : List Expr} (h : (e :: es).all notStar = true) : notStar e = true ∧ es.all notStar = true := by
  rw [List.all_cons, Bool.and_eq_true] at h
  exact h
/-- a built-in by its name -/
theorem biNm_ (g : CxG C T G X sc W) {bi : Bi} {x : Str} {p : Pos} (h : biNm bi = some x) (hg : glB sc x = true) (hs : (a :: es).all notStar = true) (ha : PA X (a :: es) (tL T G W ies)) : PE X (.Call (.Name x p) (a :: es) [] pos) (tE T G W (.bi bi ies)) := by
  have m : ∀ y, y ∈ bltNames → X.mg y = none := g.blt
  have s1 := star_ (es := es) (env := X.env) (all_tl hs).1
  have s2 := back_any (pos := pos) (env := X.env) (all_tl hs).2
  cases bi <;> simp only [biNm, Option.some.injEq, reduceCtorEq] at h <;> subst h
  · exact e_bi (cb_len g.K) (fun hc ha => pe_callB hc (g.gl hg) (m _ (by decide)) PySem.boot_len ha (by decide) (by decide) s1 s2) ha
  · exact e_bi cb_abs (fun hc ha => pe_callB hc (g.gl hg) (m _ (by decide)) (by decide +kernel) ha (by decide) (by decide) s1 s2) ha
  · exact e_bi (cb_max g.calm) (fun hc ha => pe_callB hc (g.gl hg) (m _ (by decide)) (by decide +kernel) ha (by decide) (by decide) s1 s2) ha
  · exact e_bi (cb_min g.calm) (fun hc ha => pe_callB hc (g.gl hg) (m _ (by decide)) (by decide +kernel) ha (by decide) (by decide) s1 s2) ha
  · exact e_bi (cb_all g.calm) (fun hc ha => pe_callB hc (g.gl hg) (m _ (by decide)) (by decide +kernel) ha (by decide) (by decide) s1 s2) ha
  · exact e_bi (cb_any g.calm) (fun hc ha => pe_callB hc (g.gl hg) (m _ (by decide)) (by decide +kernel) ha (by decide) (by decide) s1 s2) ha
  · exact e_bi cb_str (fun hc ha => pe_callTy hc (g.gl hg) (m _ (by decide)) (by decide +kernel) ha (by decide) (by decide) s1 s2) ha
  · exact e_bi cb_int (fun hc ha => pe_callTy hc (g.gl hg) (m _ (by decide)) (by decide +kernel) ha (by decide) (by decide) s1 s2) ha
  · exact e_bi cb_list (fun hc ha => pe_callTy hc (g.gl hg) (m _ (by decide)) (by decide +kernel) ha (by decide) (by decide) s1 s2) ha
theorem base_ {o : Expr} {x : Str} (h : noCall0 o = true) : attributeBase o x X.env (eval o X.env) = eval o X.env := by
  cases o <;> first | rfl | skip
  rename_i f as ks p
  cases as <;> cases ks <;> first | (cases f <;> rfl) | cases h
theorem few_ {p : Pos} (hs : (a :: es).all notStar = true) (hl : (a :: es).length < 29) : ((backTo p (starEach (a :: es) X.env)).all (fun x => !x.1) && (backToKw p (keywordEach [] X.env)).all (fun x => x.1.isSome)
      && decide ((a :: es).length + ([] : List Keyword).length + (if ([] : List Keyword).isEmpty then 0 else 1) < 30)) = true := by
  rw [back_all hs]
  have : decide ((a :: es).length + ([] : List Keyword).length + (if ([] : List Keyword).isEmpty then 0 else 1) < 30) = true := decide_eq_true (by simp only [List.length_nil, List.isEmpty_nil, if_true]; omega)
  rw [this]
  rfl
theorem mtNm_ (g : CxG C T G X sc W) {m : Mt} {x : Str} {p2 p : Pos} {ob : Expr} {eo : E} (h : mtNm m = some x) (h0 : noCall0 ob = true) (hp : (p2.endLine == p.line) = true) (hl : (a :: es).length < 29) (hs : (a :: es).all notStar = true) (ho : PE X ob (tE T G W eo)) (ha : PA X (a :: es) (tL T G W ies)) :
    PE X (.Call (.Attribute ob x p2) (a :: es) [] p) (tE T G W (.mt m eo ies)) := by
  have s1 := star_ (es := es) (env := X.env) (all_tl hs).1
  have s2 := back_any (pos := p) (env := X.env) (all_tl hs).2
  cases m <;> simp only [mtNm, Option.some.injEq, reduceCtorEq] at h <;> subst h
  · exact e_mt (pe_bm PySem.F.plainAttrs_str PySem.F.slot_str_join PySem.F.type_str_join cm_join ho ha (base_ h0) (few_ hs hl) hp s1 s2) (rcv_str g.K fun d h => by cases d <;> first | exact ⟨_, rfl⟩ | cases h)
  · exact e_mt (pe_bm PySem.F.plainAttrs_str PySem.F.slot_str_startswith PySem.F.type_str_startswith cm_starts ho ha (base_ h0) (few_ hs hl) hp s1 s2) (rcv_str g.K fun d h => by cases d <;> first | exact ⟨_, rfl⟩ | cases h)
  · exact e_mt (pe_bm PySem.F.plainAttrs_str PySem.F.slot_str_index PySem.F.type_str_index cm_indexS ho ha (base_ h0) (few_ hs hl) hp s1 s2) (rcv_str g.K fun d h => by cases d <;> first | exact ⟨_, rfl⟩ | cases h)
theorem slice_ {i : Expr} (h : (!isSlice i) = true) : PlainIx i := fun o j => by
  cases i <;> first | rfl | cases h
theorem fold_ {i : Expr} (h : (!isSet i) = true) : ∀ x, foldedSetIterable i X.env x = pure x := fun x => by
  cases i <;> first | rfl | cases h
theorem loc_ (g : CxG C T G X sc W) {ce : Bool} {x : Str} (hc : ce = true → ∀ x, X.fn x = true) (h : (locB sc x || (ce && locC sc x)) = true) : Loc X.env.scope x ∧ (X.fn x = true ∨ X.env.scope.names.lookup x = some .local) := by
  unfold locB locC at h
  rw [g.sc]
  simp only [Bool.or_eq_true, Bool.and_eq_true, decide_eq_true_eq] at h
  rcases h with h | ⟨h1, h2⟩
  · exact ⟨.inl h, .inr h⟩
  · exact ⟨h2, .inl (hc h1 x)⟩
theorem tgL_ (g : CxG C T G X sc W) {ce : Bool} (hc : ce = true → ∀ x, X.fn x = true) : ∀ {is : List Nat} {as : List Expr}, tgL ce C.N sc is as = true → as.all notStar = true → PGs X as (gMany is) ∧ (assignEach as X.env).length = is.length ∧ (assignEach as X.env).findIdx? (·.1) = none
  | [], [], _, _ => ⟨pgs_nil, rfl, rfl⟩
  | i :: is, a :: as, h, hs => by
    unfold tgL at h
    rw [Bool.and_eq_true] at h
    obtain ⟨h1, h2⟩ := h
    cases hv : vNm a with
    | none => rw [hv] at h1; cases h1
    | some x =>
      rw [hv] at h1
      obtain ⟨p, rfl⟩ := vNm_ hv
      have h1' : (decide (C.N[i]? = some x) && (locB sc x || (ce && locC sc x))) = true := h1
      rw [Bool.and_eq_true] at h1'
      obtain ⟨l1, l2⟩ := loc_ g hc h1'.2
      obtain ⟨q1, q2, q3⟩ := tgL_ g hc h2 (all_tl hs).2
      refine ⟨pgs_cons (pg_name (by rw [g.N]; exact g.nd) (by rw [g.N]; exact of_decide_eq_true h1'.1) l1 l2) q1 rfl, ?_, ?_⟩
      · show (assignEach as X.env).length + 1 = _
        rw [q2]; rfl
      · show List.findIdx? _ ((false, _) :: assignEach as X.env) = none
        rw [List.findIdx?_cons]
        simp only [Bool.false_eq_true, if_false, q3]
        rfl
  | [], _ :: _, h, _ => by cases h
  | _ :: _, [], h, _ => by cases h
theorem tgB_ (g : CxG C T G X sc W) {ce : Bool} {t : Tg} (hc : ce = true → ∀ x, X.fn x = true) (h : tgB ce C.N sc t tg = true) : PG X tg (gT X.K t) := by
  cases t with
  | one i =>
    unfold tgB at h
    cases hv : vNm tg with
    | none => rw [hv] at h; cases h
    | some x =>
      rw [hv] at h
      obtain ⟨p, rfl⟩ := vNm_ hv
      have h1' : (decide (C.N[i]? = some x) && (locB sc x || (ce && locC sc x))) = true := h
      rw [Bool.and_eq_true] at h1'
      obtain ⟨l1, l2⟩ := loc_ g hc h1'.2
      exact pg_name (by rw [g.N]; exact g.nd) (by rw [g.N]; exact of_decide_eq_true h1'.1) l1 l2
  | many is =>
    unfold tgB at h
    cases hv : vTup tg with
    | none => rw [hv] at h; cases h
    | some as =>
      rw [hv] at h
      obtain ⟨k, p, rfl⟩ := vTup_ hv
      have h1' : (tgL ce C.N sc is as && as.all notStar) = true := h
      rw [Bool.and_eq_true] at h1'
      obtain ⟨q1, q2, q3⟩ := tgL_ g hc h1'.1 h1'.2
      exact pg_tup g.calm q1 q2 q3
theorem ea_isi (g : CxG C T G X sc W) {t : Ty} {y : Str} {p p2 p3 : Pos} (ha : PE X a (tE T G W ea)) (h2 : glB sc "isinstance" = true) (h7 : glB sc y = true) (e2 : tyNm t = some y) (sl : starEach [a, .Name y p3] X.env = (false, eval a X.env) :: starEach [.Name y p3] X.env) : PE X (.Call (.Name "isinstance" p) [a, .Name y p3] [] p2) (tE T G W (.isi ea t)) := by
  cases t <;> simp only [tyNm, Option.some.injEq, reduceCtorEq] at e2 <;> subst e2
  all_goals exact e_isi (x := "") g.K (fun c z => by cases z) ha (g.gl h2) (g.blt _ (by decide)) (by decide +kernel) (g.gl h7) (g.blt _ (by decide)) (by decide +kernel) (by decide) (by decide) sl
/-- inside a comprehension -/
theorem CxG.blk (g : CxG C T G X sc W) (s : Shared) (H : Hp) (scope : Scope) (cl : List (Str × Addr)) (L : Addr) (fp : List Addr) : CxG C T G (X.blk s H scope (PySem.compEnvC scope cl L X.env) fp) (relS scope sc) W0 where
  K := g.K
  calm := g.calm
  N := g.N
  nd := g.nd
  sc := by rw [← g.sc]; rfl
  u := g.u
  tk := takes0
  fns := g.fns
  cts := g.cts
  blt := g.blt
end
end B
end

section
set_option Elab.async false
set_option linter.all false
set_option maxRecDepth 100000
set_option maxHeartbeats 4000000
/-! BX: the checker of expressions is sound. -/
namespace B
open PySem PySem.Spec PyProof.Rows L2
/-- what is shown of an expression -/
structure Snd (T : Stat) (G : Sg) (X : Cx) (W : WX) (e : E) (a : Expr) : Prop where
  pe : PE X a (tE T G W e)
  pt : ptB a = true → PT X a (tT T G W e)
  pw : boB a = true → PW X a (tT T G W e)
section
variable {C : Ck} {T : Stat} {G : Sg} {W : WX} {X : Cx} {sc : Scope}
variable {a b c tg : Expr} {es : List Expr} {e ea eb ec : E} {ies : Es} {pos : Pos}
theorem Snd.val (h : PE X a (tE T G W e)) (he : ∀ whole, isTrue a X.env whole = (do let v ← whole; standAt a.pos; holding [v] (truthy v))) (hb : boB a = false) : Snd T G X W e a :=
  ⟨h, fun _ => t_val h he, fun z => by rw [hb] at z; cases z⟩
theorem and2 {p q : Bool} (h : (p && q) = true) : p = true ∧ q = true := by rwa [Bool.and_eq_true] at h
theorem strong_ (g : CxG C T G X sc W) (h : Snd T G X W e a) (hc : ckE C sc e a = true) : PE X a (tE' T G W e) := by
  refine e_strong h.pe fun i hi => ?_
  subst hi
  have hc' : (match vNm a with
    | some x => decide (C.N[i]? = some x) && visB sc x && nd2 x
    | none => false) = true := hc
  cases hv : vNm a with
  | none => rw [hv] at hc'; cases hc'
  | some x =>
    rw [hv] at hc'
    obtain ⟨p, rfl⟩ := vNm_ hv
    obtain ⟨h1, h3⟩ := and2 hc'
    obtain ⟨h1, h2⟩ := and2 h1
    exact pe_var (by rw [g.N]; exact of_decide_eq_true h1) (by rw [g.sc]; exact visB_ h2) (nd2_ h3).1 (nd2_ h3).2
mutual
theorem ckE_ : ∀ (e : E) (C : Ck) (sc : Scope) (a : Expr), ckE C sc e a = true → ∀ (X : Cx) (W : WX), CxG C T G X sc W → Snd T G X W e a
  | .hole, C, sc, a, h, X, W, g => ⟨e_hole, fun _ => t_hole, fun _ => w_hole⟩
  | .var i, C, sc, a, h, X, W, g => by
    unfold ckE at h
    split at h
    · rename_i x hv
      obtain ⟨p, rfl⟩ := vNm_ hv
      obtain ⟨h1, h3⟩ := and2 h
      obtain ⟨h1, h2⟩ := and2 h1
      exact .val (e_var (by rw [g.N]; exact of_decide_eq_true h1) (by rw [g.sc]; exact visB_ h2) (nd2_ h3).1 (nd2_ h3).2) (fun _ => rfl) rfl
    · cases h
  | .int i, C, sc, a, h, X, W, g => by
    unfold ckE at h
    obtain ⟨j, p, rfl⟩ := vInt_ (of_decide_eq_true h)
    exact .val e_int (fun _ => rfl) rfl
  | .str s, C, sc, a, h, X, W, g => by
    unfold ckE at h
    obtain ⟨h1, h2⟩ := and2 h
    obtain ⟨j, p, rfl⟩ := vStr_ (of_decide_eq_true h1)
    exact .val (e_str (okTB_ h2)) (fun _ => rfl) rfl
  | .bl b, C, sc, a, h, X, W, g => by
    unfold ckE at h
    obtain ⟨j, p, rfl⟩ := vBl_ (of_decide_eq_true h)
    exact .val e_bl (fun _ => rfl) rfl
  | .non, C, sc, a, h, X, W, g => by
    unfold ckE at h
    obtain ⟨j, p, rfl⟩ := vNon_ h
    exact .val e_non (fun _ => rfl) rfl
  | .glb j, C, sc, a, h, X, W, g => by
    unfold ckE at h
    split at h
    · rename_i x hv
      obtain ⟨p, rfl⟩ := vNm_ hv
      obtain ⟨h1, h3⟩ := and2 h
      obtain ⟨h1, h2⟩ := and2 h1
      obtain ⟨u, v, q1, q2, q3⟩ := g.cts j x (of_decide_eq_true h1)
      exact .val (e_glb (g.gl h2) q1 q2 q3 (nd2_ h3).1) (fun _ => rfl) rfl
    · cases h
  | .op p x y, C, sc, a, h, X, W, g => by
    unfold ckE at h
    split at h
    · rename_i l op r hv
      obtain ⟨ps, rfl⟩ := vBin_ hv
      obtain ⟨h1, h3⟩ := and2 h
      obtain ⟨h1, h2⟩ := and2 h1
      exact .val (e_op (opB_ g h1) (ckE_ x C sc l h2 X W g).pe (ckE_ y C sc r h3 X W g).pe) (fun _ => rfl) rfl
    · split at h
      · rename_i l op r hv
        obtain ⟨ps, rfl⟩ := vCmp_ hv
        obtain ⟨h1, h4⟩ := and2 h
        obtain ⟨h1, h3⟩ := and2 h1
        obtain ⟨h1, h2⟩ := and2 h1
        have hm : behindInMarks op r = false := by simpa using h2
        have ha := (ckE_ x C sc l h3 X W g).pe
        have hb := (ckE_ y C sc r h4 X W g).pe
        exact ⟨e_cmp (cmpB_ g h1).1 ha hb hm, fun _ => t_cmp (cmpB_ g h1).1 ha hb hm, fun z => by cases z⟩
      · cases h
  | .neg x, C, sc, a, h, X, W, g => by
    unfold ckE at h
    split at h
    · rename_i y hv
      obtain ⟨ps, rfl⟩ := vUn_ hv
      exact .val (e_neg (ckE_ x C sc y h X W g).pe) (fun _ => rfl) rfl
    · cases h
  | .chain p q x y z, C, sc, a, h, X, W, g => by
    unfold ckE at h
    split at h
    · rename_i l o1 o2 m r hv
      obtain ⟨ps, rfl⟩ := vCmp_ hv
      obtain ⟨h1, h6⟩ := and2 h
      obtain ⟨h1, h5⟩ := and2 h1
      obtain ⟨h1, h4⟩ := and2 h1
      obtain ⟨h1, h3⟩ := and2 h1
      obtain ⟨h1, h2⟩ := and2 h1
      have hm : lastMarks [o1, o2] [m, r] = false := by simpa using h3
      have ha := (ckE_ x C sc l h4 X W g).pe
      have hb := (ckE_ y C sc m h5 X W g).pe
      have hc := (ckE_ z C sc r h6 X W g).pe
      obtain ⟨k1, k2⟩ := cmpB_ g h1
      obtain ⟨k3, k4⟩ := cmpB_ g h2
      exact ⟨e_chain k2 k4 k1 k3 ha hb hc hm, fun _ => t_chain k2 k4 k1 k3 ha hb hc hm, fun z => by cases z⟩
    · cases h
  | .and x y, C, sc, a, h, X, W, g => by
    unfold ckE at h
    split at h
    · rename_i l r rest p hv
      obtain rfl := vBool_ hv
      obtain ⟨h1, h3⟩ := and2 h
      obtain ⟨h1, h2⟩ := and2 h1
      have ha := ckE_ x C sc l h2 X W g
      have hb := ckE_ y C sc _ h3 X W g
      have w := w_and (pos := p) (ha.pt h1) (hb.pw rfl)
      exact ⟨e_and ha.pe hb.pe, fun _ => w.pt, fun _ => w⟩
    · cases h
  | .or x y, C, sc, a, h, X, W, g => by
    unfold ckE at h
    split at h
    · rename_i l r rest p hv
      obtain rfl := vBool_ hv
      obtain ⟨h1, h3⟩ := and2 h
      obtain ⟨h1, h2⟩ := and2 h1
      have ha := ckE_ x C sc l h2 X W g
      have hb := ckE_ y C sc _ h3 X W g
      have w := w_or (pos := p) (ha.pt h1) (hb.pw rfl)
      exact ⟨e_or ha.pe hb.pe, fun _ => w.pt, fun _ => w⟩
    · cases h
  | .one x, C, sc, a, h, X, W, g => by
    unfold ckE at h
    split at h
    · rename_i op l p hv
      obtain rfl := vBool_ hv
      obtain ⟨h1, h2⟩ := and2 h
      have ha := ckE_ x C sc l h2 X W g
      have w : PW X (.BoolOp op [l] p) (tT T G W (.one x)) := by
        cases op
        · exact w_one1 (ha.pt h1)
        · exact w_one2 (ha.pt h1)
      exact ⟨e_one ha.pe, fun _ => w.pt, fun _ => w⟩
    · cases h
  | .not x, C, sc, a, h, X, W, g => by
    unfold ckE at h
    split at h
    · rename_i y hv
      obtain ⟨ps, rfl⟩ := vUn_ hv
      obtain ⟨h1, h2⟩ := and2 h
      have ha := ckE_ x C sc y h2 X W g
      exact ⟨e_not ha.pe, fun _ => t_not (ha.pt h1), fun z => by cases z⟩
    · cases h
  | .ife c x y, C, sc, a, h, X, W, g => by
    unfold ckE at h
    split at h
    · rename_i ac ax ay hv
      obtain ⟨ps, rfl⟩ := vIf_ hv
      obtain ⟨h1, h4⟩ := and2 h
      obtain ⟨h1, h3⟩ := and2 h1
      obtain ⟨h1, h2⟩ := and2 h1
      exact ⟨e_ife ((ckE_ c C sc ac h2 X W g).pt h1) (ckE_ x C sc ax h3 X W g).pe (ckE_ y C sc ay h4 X W g).pe, fun z => (by cases z), fun z => (by cases z)⟩
    · cases h
  | .call f as, C, sc, a, h, X, W, g => by
    unfold ckE at h
    split at h
    · rename_i x b bs p2 p hv
      obtain rfl := vCall_ hv
      obtain ⟨h1, h5⟩ := and2 h
      obtain ⟨h1, h4⟩ := and2 h1
      obtain ⟨h1, h3⟩ := and2 h1
      obtain ⟨h1, h2⟩ := and2 h1
      obtain ⟨k, fa, fd, ps, q1, q2, q3, q4, q5⟩ := g.fns f x as.len (of_decide_eq_true h1)
      exact .val (e_call q1 g.tk q2 (g.gl h2) q3 q4 q5 (ckEs_ as C sc _ h5 X W g h4) rfl (nd2_ h3).1 (star_ (all_tl h4).1) (back_any (all_tl h4).2)) (fun _ => rfl) rfl
    · cases h
  | .bi b as, C, sc, a, h, X, W, g => by
    unfold ckE at h
    split at h
    · rename_i x c cs p2 p hv
      obtain rfl := vCall_ hv
      obtain ⟨h1, h4⟩ := and2 h
      obtain ⟨h1, h3⟩ := and2 h1
      obtain ⟨h1, h2⟩ := and2 h1
      exact .val (biNm_ g (of_decide_eq_true h1) h2 h3 (ckEs_ as C sc _ h4 X W g h3)) (fun _ => rfl) rfl
    · cases h
  | .isi x t, C, sc, a, h, X, W, g => by
    unfold ckE at h
    split at h
    · rename_i f l ty p2 p hv
      obtain rfl := vCall_ hv
      obtain ⟨h1, h5⟩ := and2 h
      obtain ⟨h1, h4⟩ := and2 h1
      obtain ⟨h1, h3⟩ := and2 h1
      obtain ⟨h1, h2⟩ := and2 h1
      obtain rfl := of_decide_eq_true h1
      split at h5
      · rename_i y z e1 e2
        obtain ⟨h6, h7⟩ := and2 h5
        obtain rfl := of_decide_eq_true h6
        obtain ⟨p3, rfl⟩ := vNm_ e1
        have ha := (ckE_ x C sc l h4 X W g).pe
        have m : ∀ y, y ∈ bltNames → X.mg y = none := g.blt
        have sl := star_ (es := [.Name y p3]) (env := X.env) h3
        refine .val (ea_isi g ha h2 h7 e2 sl) (fun _ => rfl) rfl
      · cases h5
    · cases h
  | .mt m o as, C, sc, a, h, X, W, g => by
    unfold ckE at h
    split at h
    · rename_i ob x c cs p2 p hv
      obtain rfl := vMeth_ hv
      obtain ⟨h1, h7⟩ := and2 h
      obtain ⟨h1, h6⟩ := and2 h1
      obtain ⟨h1, h5⟩ := and2 h1
      obtain ⟨h1, h4⟩ := and2 h1
      obtain ⟨h1, h3⟩ := and2 h1
      obtain ⟨h1, h2⟩ := and2 h1
      exact .val (mtNm_ g (of_decide_eq_true h1) h2 h3 (of_decide_eq_true h4) h5 (ckE_ o C sc ob h6 X W g).pe (ckEs_ as C sc _ h7 X W g h5)) (fun _ => rfl) rfl
    · cases h
  | .idx x i, C, sc, a, h, X, W, g => by
    unfold ckE at h
    split at h
    · rename_i ax ai hv
      obtain ⟨p, rfl⟩ := vSub_ hv
      obtain ⟨h1, h3⟩ := and2 h
      obtain ⟨h1, h2⟩ := and2 h1
      exact .val (e_idx g.K (ckE_ x C sc ax h2 X W g).pe (ckE_ i C sc ai h3 X W g).pe (slice_ h1)) (fun _ => rfl) rfl
    · cases h
  | .didx x i, C, sc, a, h, X, W, g => by
    unfold ckE at h
    split at h
    · rename_i ax ai hv
      obtain ⟨p, rfl⟩ := vSub_ hv
      obtain ⟨h1, h3⟩ := and2 h
      obtain ⟨h1, h2⟩ := and2 h1
      exact .val (e_didx (Nat.lt_of_le_of_lt (Nat.add_le_add_left (by decide) _) g.u) (ckE_ x C sc ax h2 X W g).pe (ckE_ i C sc ai h3 X W g).pe (slice_ h1)) (fun _ => rfl) rfl
    · cases h
  | .ix x i, C, sc, a, h, X, W, g => by
    unfold ckE at h
    split at h
    · rename_i ax ai hv
      obtain ⟨p, rfl⟩ := vSub_ hv
      obtain ⟨h1, h3⟩ := and2 h
      obtain ⟨h1, h2⟩ := and2 h1
      exact .val (e_ix g.K (Nat.lt_of_le_of_lt (Nat.add_le_add_left (by decide) _) g.u) (ckE_ x C sc ax h2 X W g).pe (ckE_ i C sc ai h3 X W g).pe (slice_ h1)) (fun _ => rfl) rfl
    · cases h
  | .sl x lo hi, C, sc, a, h, X, W, g => by
    unfold ckE at h
    split at h
    · rename_i ax s hv
      obtain ⟨p, rfl⟩ := vSub_ hv
      split at h
      · rename_i l u hs
        obtain ⟨p2, rfl⟩ := vSlice_ hs
        obtain ⟨h1, h3⟩ := and2 h
        obtain ⟨h1, h2⟩ := and2 h1
        have ha := (ckE_ x C sc ax h1 X W g).pe
        have hl : PO X l (tO T G W lo) := by
          cases l with
          | none =>
            cases lo <;> first | exact o_none | cases h2
          | some l =>
            obtain ⟨q1, q2⟩ := and2 h2
            exact o_some (ckE_ lo C sc l q2 X W g).pe (by simpa using q1)
        have hh : PO X u (tO T G W hi) := by
          cases u with
          | none =>
            cases hi <;> first | exact o_none | cases h3
          | some l =>
            obtain ⟨q1, q2⟩ := and2 h3
            exact o_some (ckE_ hi C sc l q2 X W g).pe (by simpa using q1)
        exact .val (e_sl g.K ha hl hh) (fun _ => rfl) rfl
      · cases h
    · cases h
  | .lst as, C, sc, a, h, X, W, g => by
    unfold ckE at h
    split at h
    · rename_i es hv
      obtain ⟨p, rfl⟩ := vLst_ hv
      obtain ⟨h1, h2⟩ := and2 h
      exact .val (e_lst (ckEs_ as C sc _ h2 X W g h1)) (fun _ => rfl) rfl
    · cases h
  | .tup as, C, sc, a, h, X, W, g => by
    unfold ckE at h
    split at h
    · rename_i es hv
      obtain ⟨k, p, rfl⟩ := vTup_ hv
      obtain ⟨h1, h2⟩ := and2 h
      exact .val (e_tup (ckEs_ as C sc _ h2 X W g h1)) (fun _ => rfl) rfl
    · cases h
  | .lc elt tg it c, C, sc, a, h, X, W, g => by
    unfold ckE at h
    split at h
    · rename_i ae atg ai ifs s hv
      obtain ⟨p, rfl⟩ := vLc_ hv
      obtain ⟨h1, h6⟩ := and2 h
      obtain ⟨h1, h5⟩ := and2 h1
      obtain ⟨h1, h4⟩ := and2 h1
      obtain ⟨h1, h3⟩ := and2 h1
      obtain ⟨h1, h2⟩ := and2 h1
      have ok : BlkOk X.N X.env.scope s ((tgIx tg).map fun i : Nat => ((C.N[i]?).getD ("" : Str), i)) := blkOk_by (by rw [g.N, g.sc]; exact h2)
      have ho : ((tgIx tg).map fun i : Nat => ((C.N[i]?).getD ("" : Str), i)).map (·.2) = tgIx tg := by rw [List.map_map]; exact List.map_id _
      refine .val (pe_weak (pe_lc (wi := tI T G W it) (g := gT X.K tg) (tt := tIfs T G c) (te := tE T G W0 elt) g.calm (by rw [g.N]; exact g.nd) (ckIt_ it C sc atg ai h4 X W g) ok (fun s H L cl fp => tgB_ (g.blk s H _ cl L fp) (fun z => by cases z) h3) (fun s H L cl fp => ?_) (fun s H L cl fp => (ckE_ elt C _ ae h5 _ W0 (g.blk s H _ cl L fp)).pe) (fold_ h1)) fun σ H Q q => lc_of g.K (fun i => by rw [ho]) q) (fun _ => rfl) rfl
      match ifs, h6 with
      | [], h6 => 
        have e : c = .hole := by cases c <;> first | rfl | cases h6
        rw [e]
        exact ifs_none
      | [x], h6 =>
        obtain ⟨q1, q3⟩ := and2 h6
        obtain ⟨q1, q2⟩ := and2 q1
        exact ifs_one ((ckE_ c C _ x q3 _ W0 (g.blk s H _ cl L fp)).pt q2) (by simpa using q1)
      | _ :: _ :: _, h6 => cases h6
    · cases h
  | .sl3 _ _, _, _, _, h, _, _, _ => by unfold ckE at h; cases h
  | .rev _, _, _, _, h, _, _, _ => by unfold ckE at h; cases h
  | .dlit kvs, C, sc, a, h, X, W, g => by
    unfold ckE at h
    split at h
    · rename_i ks vs hv
      obtain ⟨p, rfl⟩ := vDict_ hv
      obtain ⟨h1, h2⟩ := and2 h
      exact .val (e_dlit h1 (of_decide_eq_true h2)) (fun _ => rfl) rfl
    · cases h
  | .fld _ _ _, _, _, _, h, _, _, _ => by unfold ckE at h; cases h
  | .mk _ _, _, _, _, h, _, _, _ => by unfold ckE at h; cases h
  | .meth _ _ _, _, _, _, h, _, _, _ => by unfold ckE at h; cases h
theorem ckEs_ : ∀ (e : Es) (C : Ck) (sc : Scope) (es : List Expr), ckEs C sc e es = true → ∀ (X : Cx) (W : WX), CxG C T G X sc W → es.all notStar = true → PA X es (tL T G W e)
  | .nil, C, sc, es, h, X, W, g, hs => by
    cases es with
    | nil => exact l_nil
    | cons => unfold ckEs at h; cases h
  | .cons e r, C, sc, es, h, X, W, g, hs => by
    cases es with
    | nil => unfold ckEs at h; cases h
    | cons a as =>
      unfold ckEs at h
      obtain ⟨h1, h2⟩ := and2 h
      exact l_cons (ckE_ e C sc a h1 X W g).pe (ckEs_ r C sc as h2 X W g (all_tl hs).2) (star_ (all_tl hs).1)
theorem ckIt_ : ∀ (it : It) (C : Ck) (sc : Scope) (tg a : Expr), ckIt C sc it tg a = true → ∀ (X : Cx) (W : WX), CxG C T G X sc W → PI X tg a (tI T G W it)
  | .lst e, C, sc, tg, a, h, X, W, g => by
    unfold ckIt at h
    exact i_lst (strong_ g (ckE_ e C sc a h X W g) h)
  | .tup e, C, sc, tg, a, h, X, W, g => by
    unfold ckIt at h
    exact i_tup g.K (ckE_ e C sc a h X W g).pe
  | .str e, C, sc, tg, a, h, X, W, g => by
    unfold ckIt at h
    exact i_str (ckE_ e C sc a h X W g).pe
  | .any e, C, sc, tg, a, h, X, W, g => by
    unfold ckIt at h
    exact i_any g.K (ckE_ e C sc a h X W g).pe (strong_ g (ckE_ e C sc a h X W g) h)
  | .rng1 e, C, sc, tg, a, h, X, W, g => by
    unfold ckIt at h
    split at h
    · rename_i f x p2 p hv
      obtain rfl := vCall_ hv
      obtain ⟨h1, h4⟩ := and2 h
      obtain ⟨h1, h3⟩ := and2 h1
      obtain ⟨h1, h2⟩ := and2 h1
      obtain rfl := of_decide_eq_true h1
      exact i_rng1 (g.gl h2) (g.blt _ (by decide)) (star_ h3) (ckE_ e C sc x h4 X W g).pe
    · cases h
  | .rng2 e e2, C, sc, tg, a, h, X, W, g => by
    unfold ckIt at h
    split at h
    · rename_i f x y p2 p hv
      obtain rfl := vCall_ hv
      obtain ⟨h1, h5⟩ := and2 h
      obtain ⟨h1, h4⟩ := and2 h1
      obtain ⟨h1, h3⟩ := and2 h1
      obtain ⟨h1, h2⟩ := and2 h1
      obtain rfl := of_decide_eq_true h1
      exact i_rng2 (g.gl h2) (g.blt _ (by decide)) (star_ (all_tl h3).1) (star_ (all_tl (all_tl h3).2).1) (ckE_ e C sc x h4 X W g).pe (ckE_ e2 C sc y h5 X W g).pe
    · cases h
  | .rng3 e e2 e3, C, sc, tg, a, h, X, W, g => by
    unfold ckIt at h
    split at h
    · rename_i f x y z p2 p hv
      obtain rfl := vCall_ hv
      obtain ⟨h1, h6⟩ := and2 h
      obtain ⟨h1, h5⟩ := and2 h1
      obtain ⟨h1, h4⟩ := and2 h1
      obtain ⟨h1, h3⟩ := and2 h1
      obtain ⟨h1, h2⟩ := and2 h1
      obtain rfl := of_decide_eq_true h1
      exact i_rng3 (g.gl h2) (g.blt _ (by decide)) (star_ (all_tl h3).1) (star_ (all_tl (all_tl h3).2).1) (star_ (all_tl (all_tl (all_tl h3).2).2).1) (back_any (all_tl h3).2) (ckE_ e C sc x h4 X W g).pe (ckE_ e2 C sc y h5 X W g).pe (ckE_ e3 C sc z h6 X W g).pe
    · cases h
  | .enum e, C, sc, tg, a, h, X, W, g => by
    unfold ckIt at h
    split at h
    · rename_i f x p2 p hv
      obtain rfl := vCall_ hv
      obtain ⟨h1, h5⟩ := and2 h
      obtain ⟨h1, h4⟩ := and2 h1
      obtain ⟨h1, h3⟩ := and2 h1
      obtain ⟨h1, h2⟩ := and2 h1
      obtain rfl := of_decide_eq_true h1
      obtain ⟨els, ht⟩ := Option.isSome_iff_exists.mp h3
      obtain ⟨kk, tp, rfl⟩ := vTup_ ht
      exact i_enum (g.gl h2) (g.blt _ (by decide)) (star_ h4) (strong_ g (ckE_ e C sc x h5 X W g) h5)
    · cases h
  | .zip e e2, C, sc, tg, a, h, X, W, g => by
    unfold ckIt at h
    split at h
    · rename_i f x y p2 p hv
      obtain rfl := vCall_ hv
      obtain ⟨h1, h6⟩ := and2 h
      obtain ⟨h1, h5⟩ := and2 h1
      obtain ⟨h1, h4⟩ := and2 h1
      obtain ⟨h1, h3⟩ := and2 h1
      obtain ⟨h1, h2⟩ := and2 h1
      obtain rfl := of_decide_eq_true h1
      obtain ⟨els, ht⟩ := Option.isSome_iff_exists.mp h3
      obtain ⟨kk, tp, rfl⟩ := vTup_ ht
      exact i_zip (g.gl h2) (g.blt _ (by decide)) (star_ (all_tl h4).1) (star_ (all_tl (all_tl h4).2).1) (back_any (all_tl h4).2) (strong_ g (ckE_ e C sc x h5 X W g) h5) (strong_ g (ckE_ e2 C sc y h6 X W g) h6)
    · cases h
  | .zip3 e e2 e3, C, sc, tg, a, h, X, W, g => by
    unfold ckIt at h
    split at h
    · rename_i f x y z p2 p hv
      obtain rfl := vCall_ hv
      obtain ⟨h1, h7⟩ := and2 h
      obtain ⟨h1, h6⟩ := and2 h1
      obtain ⟨h1, h5⟩ := and2 h1
      obtain ⟨h1, h4⟩ := and2 h1
      obtain ⟨h1, h3⟩ := and2 h1
      obtain ⟨h1, h2⟩ := and2 h1
      obtain rfl := of_decide_eq_true h1
      obtain ⟨els, ht⟩ := Option.isSome_iff_exists.mp h3
      obtain ⟨kk, tp, rfl⟩ := vTup_ ht
      exact i_zip3 (g.gl h2) (g.blt _ (by decide)) (star_ (all_tl h4).1) (star_ (all_tl (all_tl h4).2).1) (star_ (all_tl (all_tl (all_tl h4).2).2).1) (back_any (all_tl h4).2) (strong_ g (ckE_ e C sc x h5 X W g) h5) (strong_ g (ckE_ e2 C sc y h6 X W g) h6) (strong_ g (ckE_ e3 C sc z h7 X W g) h7)
    · cases h
  | .zipS e e2, C, sc, tg, a, h, X, W, g => by
    unfold ckIt at h
    split at h
    · rename_i f x y p2 p hv
      obtain rfl := vCall_ hv
      obtain ⟨h1, h6⟩ := and2 h
      obtain ⟨h1, h5⟩ := and2 h1
      obtain ⟨h1, h4⟩ := and2 h1
      obtain ⟨h1, h3⟩ := and2 h1
      obtain ⟨h1, h2⟩ := and2 h1
      obtain rfl := of_decide_eq_true h1
      obtain ⟨els, ht⟩ := Option.isSome_iff_exists.mp h3
      obtain ⟨kk, tp, rfl⟩ := vTup_ ht
      have ha := ckE_ e C sc x h5 X W g
      have hb := ckE_ e2 C sc y h6 X W g
      exact i_zipS (g.gl h2) (g.blt _ (by decide)) (star_ (all_tl h4).1) (star_ (all_tl (all_tl h4).2).1) (back_any (all_tl h4).2) ha.pe hb.pe
    · cases h
  | .zipA e e2, C, sc, tg, a, h, X, W, g => by
    unfold ckIt at h
    split at h
    · rename_i f x y p2 p hv
      obtain rfl := vCall_ hv
      obtain ⟨h1, h6⟩ := and2 h
      obtain ⟨h1, h5⟩ := and2 h1
      obtain ⟨h1, h4⟩ := and2 h1
      obtain ⟨h1, h3⟩ := and2 h1
      obtain ⟨h1, h2⟩ := and2 h1
      obtain rfl := of_decide_eq_true h1
      obtain ⟨els, ht⟩ := Option.isSome_iff_exists.mp h3
      obtain ⟨kk, tp, rfl⟩ := vTup_ ht
      have ha := ckE_ e C sc x h5 X W g
      have hb := ckE_ e2 C sc y h6 X W g
      exact i_zipA (g.gl h2) (g.blt _ (by decide)) (star_ (all_tl h4).1) (star_ (all_tl (all_tl h4).2).1) (back_any (all_tl h4).2) ha.pe hb.pe (strong_ g ha h5) (strong_ g hb h6)
    · cases h
end
end
end B
end

section
set_option Elab.async false
set_option linter.all false
set_option maxRecDepth 100000
set_option maxHeartbeats 2000000
/-! BY: the checker of statements: its parts. -/
namespace B
open PySem PySem.Spec PyProof.Rows L2
def sStar : Expr → Bool
  | .Starred .. => true
  | _ => false
theorem swp2 {env : PySem.Env} {x y : Str} {a b : Expr} {px py pt pt2 : Pos} {kt k2 : Nat} (hk : env.blockKind = .function) (hx : env.kindOf x = some .local) (hy : env.kindOf y = some .local) (hl : (py.line == px.line) = true) (hxy : [x, y].eraseDups.length = 2) (h1 : [a, b].all notStar = true)
    (h2 : [a, b].all (foldedForSure 8) = false) (h3 : [a, b].all (constantsAlone 8) = false) : swappedStores [.Tuple [.Name x px, .Name y py] kt pt] (.Tuple [a, b] k2 pt2) env = pure (some [x, y]) := by
  have hb : (env.blockKind != ScopeKind.function) = false := by rw [hk]; rfl
  have hl0 : (px.line == px.line) = true := by simp
  unfold swappedStores
  simp only [hb, h2, h3, Expr.pos, List.head?_cons, Option.map_some, Option.getD_some, List.filterMap_cons, List.filterMap_nil, hx, hy, hl, hl0, beq_self_eq_true, Bool.and_self, if_true, hxy, List.length_cons, List.length_nil]
  refine (if_neg (by decide)).trans ((if_neg fun h => ?_).trans ((if_neg (by decide)).trans ((if_neg (by decide)).trans (if_neg (by decide)))))
  rw [List.any_eq_true] at h
  obtain ⟨c, hc, e⟩ := h
  have this := List.all_eq_true.mp h1 c hc
  cases c <;> first | (cases e; done) | (cases this; done)
theorem swp3 {env : PySem.Env} {x y z : Str} {a b c : Expr} {px py pz pt pt2 : Pos} {kt k2 : Nat} (hk : env.blockKind = .function) (hx : env.kindOf x = some .local) (hy : env.kindOf y = some .local) (hz : env.kindOf z = some .local) (hl : (py.line == px.line) = true) (hl2 : (pz.line == px.line) = true) (hxy : [x, y, z].eraseDups.length = 3) (h1 : [a, b, c].all notStar = true)
    (h2 : [a, b, c].all (foldedForSure 8) = false) (h3 : [a, b, c].all (constantsAlone 8) = false) : swappedStores [.Tuple [.Name x px, .Name y py, .Name z pz] kt pt] (.Tuple [a, b, c] k2 pt2) env = pure (some [x, y, z]) := by
  have hb : (env.blockKind != ScopeKind.function) = false := by rw [hk]; rfl
  have hl0 : (px.line == px.line) = true := by simp
  unfold swappedStores
  simp only [hb, h2, h3, Expr.pos, List.head?_cons, Option.map_some, Option.getD_some, List.filterMap_cons, List.filterMap_nil, hx, hy, hz, hl, hl2, hl0, beq_self_eq_true, Bool.and_self, if_true, hxy, List.length_cons, List.length_nil]
  refine (if_neg (by decide)).trans ((if_neg fun h => ?_).trans ((if_neg (by decide)).trans ((if_neg (by decide)).trans (if_neg (by decide)))))
  rw [List.any_eq_true] at h
  obtain ⟨c, hc, e⟩ := h
  have this := List.all_eq_true.mp h1 c hc
  cases c <;> first | (cases e; done) | (cases this; done)
/-- a plain unpacking: no swap -/
def noSwp (ts : List Expr) (v : Expr) : Bool := match vTup v with
  | none => match vLst v with
    | none => true
    | some _ => true
  | some vs => !(ts.length == 2 || ts.length == 3) || vs.length != ts.length || (vs.all notStar && vs.all (foldedForSure 8))
theorem noSwp_ {env : PySem.Env} {ts : List Expr} {v : Expr} {kt : Nat} {pt : Pos} (hk : env.blockKind = .function) (h : noSwp ts v = true) : swappedStores [.Tuple ts kt pt] v env = pure none := by
  have hb : (env.blockKind != ScopeKind.function) = false := by rw [hk]; rfl
  unfold noSwp at h
  cases v <;> first | rfl | skip
  rename_i vs k2 p2
  have h' : (!(ts.length == 2 || ts.length == 3) || vs.length != ts.length || (vs.all notStar && vs.all (foldedForSure 8))) = true := h
  unfold swappedStores
  simp only [hb]
  by_cases c1 : (!(ts.length == 2 || ts.length == 3) || vs.length != ts.length || false) = true
  · rw [if_pos c1]
  · refine (if_neg c1).trans ?_
    rw [Bool.or_false] at c1
    simp only [Bool.not_eq_true] at c1
    rw [c1, Bool.false_or, Bool.and_eq_true] at h'
    split
    · rfl
    · split
      · rfl
      · rw [if_pos h'.2]
/-- a name that is not a plain local: no swap -/
def nonLoc (sc : Scope) (ts : List Expr) : Bool := ts.any fun t => match vNm t with
  | some x => !decide (sc.names.lookup x = some .local)
  | none => true
theorem fm_len {α β : Type} {f : α → Option β} : ∀ {l : List α}, (∃ t ∈ l, f t = none) → (l.filterMap f).length < l.length
  | [], ⟨t, h, _⟩ => by cases h
  | a :: l, ⟨t, h, e⟩ => by
    rw [List.filterMap_cons]
    have le : (l.filterMap f).length ≤ l.length := List.length_filterMap_le f l
    cases hf : f a with
    | none =>
      show (l.filterMap f).length < l.length + 1
      omega
    | some b =>
      show (l.filterMap f).length + 1 < l.length + 1
      rcases List.mem_cons.mp h with rfl | h
      · rw [e] at hf; cases hf
      · have := fm_len (f := f) ⟨t, h, e⟩
        omega
theorem nonLoc_ {env : PySem.Env} {ts vs : List Expr} {kt k2 : Nat} {pt pt2 : Pos} (hk : env.blockKind = .function) (h : nonLoc env.scope ts = true) : swappedStores [.Tuple ts kt pt] (.Tuple vs k2 pt2) env = pure none := by
  have hb : (env.blockKind != ScopeKind.function) = false := by rw [hk]; rfl
  obtain ⟨t, ht, e⟩ := List.any_eq_true.mp h
  unfold swappedStores
  simp only [hb]
  split
  · rfl
  · split
    · rfl
    · split
      · rfl
      · rename_i c
        exfalso
        apply c
        rw [Bool.or_eq_true]
        refine .inl ?_
        rw [bne_iff_ne]
        refine Nat.ne_of_lt (fm_len ⟨t, ht, ?_⟩)
        cases t <;> first | rfl | skip
        rename_i x p
        have e' : (!decide (env.scope.names.lookup x = some .local)) = true := e
        have n : (env.kindOf x == some NameKind.local) = false := by
          have : ¬ env.scope.names.lookup x = some .local := by simpa using e'
          simpa [PySem.Env.kindOf] using this
        show (if (env.kindOf x == some NameKind.local && _) = true then _ else _) = none
        rw [n]
        rfl
def notComp : Expr → Bool
  | .ListComp .. => false
  | .SetComp .. => false
  | .DictComp .. => false
  | _ => true
theorem sw_no {env : PySem.Env} {v : Expr} {t : Option Expr} {l : Nat} (h : notComp v = true) : swapsWith v t l env = pure false := by
  cases v <;> first | rfl | cases h
theorem sws_no {env : PySem.Env} {v : Expr} {t : Expr} {l : Nat} (h : notComp v = true) : swapsWithSole [t] v l env = pure false := sw_no h
end B
end

section
set_option Elab.async false
set_option linter.all false
set_option maxRecDepth 100000
set_option maxHeartbeats 4000000
/-! BZ: the checker of statements, and that it is sound. -/
namespace B
open PySem PySem.Spec PyProof.Rows L2
structure CxS (C : Ck) (T : Stat) (G : Sg) (X : Cx) (sc : Scope) (W : WX) : Prop where
  g : CxG C T G X sc W
  fn : ∀ x, X.fn x = true
  ps : PassesOwn (model X.prog X.w) X.A X.env X.xe
  kd : sc.kind = .function
def vNmP : Expr → Option (Str × Pos)
  | .Name x p => some (x, p)
  | _ => none
def vAsg : Stmt → Option (Expr × Expr × Pos)
  | .Assign ts v p => match ts with
    | [t] => some (t, v, p)
    | _ => none
  | _ => none
def vEx : Stmt → Option (Expr × Pos)
  | .Expr v p => some (v, p)
  | _ => none
def vAug : Stmt → Option (Expr × Operator × Expr)
  | .AugAssign t o v _ => some (t, o, v)
  | _ => none
def vIfS : Stmt → Option (Expr × List Stmt × List Stmt)
  | .If c a b _ => some (c, a, b)
  | _ => none
def vFor : Stmt → Option (Expr × Expr × List Stmt)
  | .For t i b e _ => match e with
    | [] => some (t, i, b)
    | _ => none
  | _ => none
def vWhl : Stmt → Option (Expr × List Stmt)
  | .While c b e _ => match e with
    | [] => some (c, b)
    | _ => none
  | _ => none
def vRet : Stmt → Option (Option Expr)
  | .Return v _ => some v
  | _ => none
def isBrk : Stmt → Bool
  | .Break _ => true
  | _ => false
def isCnt : Stmt → Bool
  | .Continue _ => true
  | _ => false
def isPass : Stmt → Bool
  | .Pass _ => true
  | _ => false
def E.isLc : E → Bool
  | .lc _ _ _ _ => true
  | _ => false
def lcOk (sc : Scope) (v : Expr) (x : Str) (px : Pos) : Bool := match v with
  | .ListComp _ _ s pos => locB sc x && (px.line == pos.line) && !(s.names.any fun (n, k) => n == x && (k == .local || k == .cell))
  | _ => false
def parB (N : List Str) (sc : Scope) (is : List Nat) (ns vs : List Expr) : Bool := match is, ns with
  | [i, j], [n1, n2] => match vNmP n1, vNmP n2 with
    | some (x, px), some (y, py) => decide (N[i]? = some x) && decide (N[j]? = some y) && decide (i ≠ j) && locB sc x && locB sc y && (py.line == px.line) && decide ([x, y].eraseDups.length = 2) && decide (vs.length = 2)
    | _, _ => false
  | [i, j, l], [n1, n2, n3] => match vNmP n1, vNmP n2, vNmP n3 with
    | some (x, px), some (y, py), some (z, pz) => decide (N[i]? = some x) && decide (N[j]? = some y) && decide (N[l]? = some z) && decide (i ≠ j) && decide (i ≠ l) && decide (j ≠ l) && locB sc x && locB sc y && locB sc z && (py.line == px.line) && (pz.line == px.line) && decide ([x, y, z].eraseDups.length = 3) && decide (vs.length = 3)
    | _, _, _ => false
  | _, _ => false
def nmAt (N : List Str) (sc : Scope) (i : Nat) (a : Expr) : Bool := match vNm a with
  | some x => decide (N[i]? = some x) && visB sc x && nd2 x
  | none => false
mutual
def ckS (C : Ck) (sc : Scope) : S → Stmt → Bool
  | .nev, _ => true
  | .set i e, st => match vAsg st with
    | some (tg, v, _) => (match vNmP tg with
      | some (x, px) => decide (C.N[i]? = some x) && locC sc x && (notComp v || (e.isLc && lcOk sc v x px)) && ckE C sc e v
      | none => false)
    | none => false
  | .own i e, st => match vAsg st with
    | some (tg, v, _) => (match vNmP tg with
      | some (x, px) => decide (C.N[i]? = some x) && locC sc x && (notComp v || (e.isLc && lcOk sc v x px)) && ckE C sc e v
      | none => false)
    | none => false
  | .par ts es, st => match vAsg st with
    | some (tg, v, _) => (match vTup tg, vTup v with
      | some ns, some vs => ((parB C.N sc (ts.map (·.1)) ns vs && !vs.all (foldedForSure 8) && !vs.all (constantsAlone 8)) || ((nonLoc sc ns || noSwp ns v) && tgL true C.N sc (ts.map (·.1)) ns && ns.all notStar)) && vs.all notStar && ckEs C sc es vs
      | _, _ => false)
    | none => false
  | .unp is e, st => match vAsg st with
    | some (tg, v, _) => (match vTup tg with
      | some ns => noSwp ns v && notComp v && tgL true C.N sc is ns && ns.all notStar && ckE C sc e v
      | none => false)
    | none => false
  | .app i e, st => match vEx st with
    | some (c, _) => (match vMeth c with
      | some (ob, m, [x], p2, p) => decide (m = ("append" : Str)) && nmAt C.N sc i ob && (p2.endLine == p.line) && notStar x && ckE C sc e x
      | _ => false)
    | none => false
  | .ext i e, st => match vEx st with
    | some (c, _) => (match vMeth c with
      | some (ob, m, [x], p2, p) => decide (m = ("extend" : Str)) && nmAt C.N sc i ob && (p2.endLine == p.line) && notStar x && ckE C sc e x
      | _ => false)
    | none => false
  | .pop i, st => match vEx st with
    | some (c, _) => (match vMeth c with
      | some (ob, m, [], p2, p) => decide (m = ("pop" : Str)) && nmAt C.N sc i ob && (p2.endLine == p.line)
      | _ => false)
    | none => false
  | .clear i, st => match vEx st with
    | some (c, _) => (match vMeth c with
      | some (ob, m, [], p2, p) => decide (m = ("clear" : Str)) && nmAt C.N sc i ob && (p2.endLine == p.line)
      | _ => false)
    | none => false
  | .popTo j i k, st => match vAsg st with
    | some (tg, c, _) => (match vNmP tg, vMeth c with
      | some (y, py), some (ob, m, [x], p2, p) => decide (C.N[j]? = some y) && locC sc y && decide (m = ("pop" : Str)) && nmAt C.N sc i ob && (p2.endLine == p.line) && notStar x && ckE C sc k x
      | _, _ => false)
    | none => false
  | .insert i k e, st => match vEx st with
    | some (c, _) => (match vMeth c with
      | some (ob, m, [x, y], p2, p) => decide (m = ("insert" : Str)) && nmAt C.N sc i ob && (p2.endLine == p.line) && notStar x && notStar y && ckE C sc k x && ckE C sc e y
      | _ => false)
    | none => false
  | .seti i k e, st => match vAsg st with
    | some (tg, v, _) => (match vSub tg with
      | some (ob, ix) => nmAt C.N sc i ob && !isSlice ix && notComp v && ckE C sc k ix && ckE C sc e v
      | none => false)
    | none => false
  | .dset i k e, st => match vAsg st with
    | some (tg, v, _) => (match vSub tg with
      | some (ob, ix) => nmAt C.N sc i ob && !isSlice ix && notComp v && ckE C sc k ix && ckE C sc e v
      | none => false)
    | none => false
  | .aug i e, st => match vAug st with
    | some (tg, o, v) => (match vNmP tg with
      | some (x, _) => decide (C.N[i]? = some x) && locC sc x && decide (o = .Add) && ckE C sc e v
      | none => false)
    | none => false
  | .ife c p q, st => match vIfS st with
    | some (ac, ap, aq) => ptB ac && ckE C sc c ac && ckSs C sc p ap && ckSs C sc q aq
    | none => false
  | .for tg it body, st => match vFor st with
    | some (at_, ai, ab) => !isSet ai && tgB true C.N sc tg at_ && ckIt C sc it at_ ai && ckSs C sc body ab
    | none => false
  | .whl _ c body, st => match vWhl st with
    | some (ac, ab) => ptB ac && ckE C sc c ac && ckSs C sc body ab
    | none => false
  | .ret e, st => match vRet st with
    | some (some v) => ckE C sc e v
    | _ => false
  | .retOwn i, st => match vRet st with
    | some (some v) => nmAt C.N sc i v
    | _ => false
  | .retN, st => match vRet st with
    | some none => true
    | _ => false
  | .brk, st => isBrk st
  | .cnt, st => isCnt st
  | .pass, st => isPass st
  | .drop e, st => match vEx st with
    | some (v, _) => notComp v && ckE C sc e v
    | none => false
  | .rse _, _ => false
def ckSs (C : Ck) (sc : Scope) : Ss → List Stmt → Bool
  | .nil, [] => true
  | .cons s r, st :: sts => ckS C sc s st && ckSs C sc r sts
  | .frz _ r, sts => ckSs C sc r sts
  | _, _ => false
end
section
variable {C : Ck} {T : Stat} {G : Sg} {W : WX} {X : Cx} {sc : Scope} {lk : List Nat}
variable {a b c tg : Expr} {es : List Expr} {e ea eb ec : E} {ies : Es} {pos : Pos}
theorem vNmP_ {x : Str} {p : Pos} (h : vNmP a = some (x, p)) : a = .Name x p := by cases a <;> first | (cases h; rfl) | cases h
theorem vAsg_ {st : Stmt} {t v : Expr} {p : Pos} (h : vAsg st = some (t, v, p)) : st = .Assign [t] v p := by
  cases st <;> first | cases h | skip
  rename_i ts w q
  match ts, h with
  | [t'], h => cases h; rfl
  | [], h => cases h
  | _ :: _ :: _, h => cases h
theorem vEx_ {st : Stmt} {v : Expr} {p : Pos} (h : vEx st = some (v, p)) : st = .Expr v p := by cases st <;> first | (cases h; rfl) | cases h
theorem vAug_ {st : Stmt} {t v : Expr} {o : Operator} (h : vAug st = some (t, o, v)) : ∃ p, st = .AugAssign t o v p := by cases st <;> first | (cases h; exact ⟨_, rfl⟩) | cases h
theorem vIfS_ {st : Stmt} {x : Expr} {y z : List Stmt} (h : vIfS st = some (x, y, z)) : ∃ p, st = .If x y z p := by cases st <;> first | (cases h; exact ⟨_, rfl⟩) | cases h
theorem vFor_ {st : Stmt} {x y : Expr} {z : List Stmt} (h : vFor st = some (x, y, z)) : ∃ p, st = .For x y z [] p := by
  cases st <;> first | cases h | skip
  rename_i t i bd el p
  cases el <;> first | (cases h; exact ⟨_, rfl⟩) | cases h
theorem vWhl_ {st : Stmt} {x : Expr} {z : List Stmt} (h : vWhl st = some (x, z)) : ∃ p, st = .While x z [] p := by
  cases st <;> first | cases h | skip
  rename_i t bd el p
  cases el <;> first | (cases h; exact ⟨_, rfl⟩) | cases h
theorem vRet_ {st : Stmt} {x : Option Expr} (h : vRet st = some x) : ∃ p, st = .Return x p := by cases st <;> first | (cases h; exact ⟨_, rfl⟩) | cases h
theorem nmAt_ (g : CxG C T G X sc W) {i : Nat} (h : nmAt C.N sc i a = true) : PE X a (tVar i) ∧ ∃ x p, a = .Name x p := by
  unfold nmAt at h
  cases hv : vNm a with
  | none => rw [hv] at h; cases h
  | some x =>
    rw [hv] at h
    obtain ⟨p, rfl⟩ := vNm_ hv
    have h' : (decide (C.N[i]? = some x) && visB sc x && nd2 x) = true := h
    obtain ⟨h1, h3⟩ := and2 h'
    obtain ⟨h1, h2⟩ := and2 h1
    exact ⟨pe_var (by rw [g.N]; exact of_decide_eq_true h1) (by rw [g.sc]; exact visB_ h2) (nd2_ h3).1 (nd2_ h3).2, x, p, rfl⟩
theorem locC_ (g : CxG C T G X sc W) {x : Str} (h : locC sc x = true) : Loc X.env.scope x := by
  unfold locC at h
  rw [g.sc]
  simp only [Bool.or_eq_true, decide_eq_true_eq] at h
  exact h
theorem locB_ (g : CxG C T G X sc W) {x : Str} (h : locB sc x = true) : X.env.scope.names.lookup x = some .local := by
  rw [g.sc]
  exact of_decide_eq_true h
theorem bkd_ (g : CxS C T G X sc W) : X.env.blockKind = .function := by
  unfold PySem.Env.blockKind
  rw [g.g.sc, g.kd]
  rfl
/-- name = e, a comprehension or not -/
theorem set_rule (g : CxS C T G X sc W) {i : Nat} {x : Str} {px p : Pos} {v : Expr} (hi : C.N[i]? = some x) (hl : locC sc x = true) (hc : (notComp v || (e.isLc && lcOk sc v x px)) = true) (h : ckE C sc e v = true) : PS X (.Assign [.Name x px] v p) (tAsg (tE T G W e) (gName i)) := by
  by_cases n : notComp v = true
  · exact ps_set (by rw [g.g.N]; exact g.g.nd) (by rw [g.g.N]; exact hi) (locC_ g.g hl) (ckE_ e C sc v h X W g.g).pe (sw_no n) (.inl (g.fn x))
  · rw [Bool.or_eq_true] at hc
    obtain ⟨k1, k2⟩ := and2 (hc.resolve_left n)
    cases e <;> first | cases k1 | skip
    rename_i elt tgt it cc
    unfold ckE at h
    split at h
    · rename_i ae atg ai ifs s hv
      obtain ⟨p, rfl⟩ := vLc_ hv
      obtain ⟨h1, h6⟩ := and2 h
      obtain ⟨h1, h5⟩ := and2 h1
      obtain ⟨h1, h4⟩ := and2 h1
      obtain ⟨h1, h3⟩ := and2 h1
      obtain ⟨h1, h2⟩ := and2 h1
      have ok : BlkOk X.N X.env.scope s ((tgIx tgt).map fun i : Nat => ((C.N[i]?).getD ("" : Str), i)) := blkOk_by (by rw [g.g.N, g.g.sc]; exact h2)
      have ho : ((tgIx tgt).map fun i : Nat => ((C.N[i]?).getD ("" : Str), i)).map (·.2) = tgIx tgt := by rw [List.map_map]; exact List.map_id _
      have k3 : (locB sc x && (px.line == p.line) && !(s.names.any fun (n, k) => n == x && (k == .local || k == .cell))) = true := k2
      obtain ⟨k4, k6⟩ := and2 k3
      obtain ⟨k4, k5⟩ := and2 k4
      refine ps_weak (ps_setLc (wi := tI T G W it) (g := gT X.K tgt) (tt := tIfs T G cc) (te := tE T G W0 elt) g.g.calm (by rw [g.g.N]; exact g.g.nd) (by rw [g.g.N]; exact hi) (locB_ g.g k4) (sw_true (by rw [g.g.sc]; exact g.kd) (locB_ g.g k4) k5 (by simpa using k6))
        (ckIt_ it C sc atg ai h4 X W g.g) ok (fun s H L cl fp => tgB_ (g.g.blk s H _ cl L fp) (fun z => by cases z) h3) (fun s H L cl fp => ?_) (fun s H L cl fp => (ckE_ elt C _ ae h5 _ W0 (g.g.blk s H _ cl L fp)).pe) (fold_ h1)) fun D σ H q => lc_of g.g.K (fun i => by rw [ho]) q
      match ifs, h6 with
      | [], h6 =>
        have e : cc = .hole := by cases cc <;> first | rfl | cases h6
        rw [e]
        exact ifs_none
      | [x], h6 =>
        obtain ⟨q1, q3⟩ := and2 h6
        obtain ⟨q1, q2⟩ := and2 q1
        exact ifs_one ((ckE_ cc C _ x q3 _ W0 (g.g.blk s H _ cl L fp)).pt q2) (by simpa using q1)
      | _ :: _ :: _, h6 => cases h6
    · cases h
theorem len2 {α : Type} {l : List α} (h : l.length = 2) : ∃ a b, l = [a, b] := by
  match l, h with
  | [a, b], _ => exact ⟨a, b, rfl⟩
theorem len3 {α : Type} {l : List α} (h : l.length = 3) : ∃ a b c, l = [a, b, c] := by
  match l, h with
  | [a, b, c], _ => exact ⟨a, b, c, rfl⟩
theorem par_rule (g : CxS C T G X sc W) {ts : List (Nat × Bool)} {ns vs : List Expr} {kt k2 : Nat} {pt pt2 p : Pos} (h : parB C.N sc (ts.map (·.1)) ns vs = true) (hf : vs.all (foldedForSure 8) = false) (hc : vs.all (constantsAlone 8) = false) (hs : vs.all notStar = true) (ha : PA X vs (tL T G W ies)) :
    PS X (.Assign [.Tuple ns kt pt] (.Tuple vs k2 pt2) p) (tSt T G W lk (.par ts ies)) := by
  have nd : X.N.Nodup := by rw [g.g.N]; exact g.g.nd
  unfold parB at h
  split at h
  · rename_i i j n1 n2 ht
    split at h
    · rename_i x px y py e1 e2
      obtain rfl := vNmP_ e1
      obtain rfl := vNmP_ e2
      simp only [Bool.and_eq_true, decide_eq_true_eq] at h
      obtain ⟨⟨⟨⟨⟨⟨⟨h1, h2⟩, h3⟩, h4⟩, h5⟩, h6⟩, h7⟩, h8⟩ := h
      obtain ⟨v1, v2, rfl⟩ := len2 h8
      have lx := locB_ g.g h4
      have ly := locB_ g.g h5
      refine ps_weak (ps_par g.g.calm nd (by rw [g.g.N]; exact h1) (by rw [g.g.N]; exact h2) h3 lx ly ha (swp2 (bkd_ g) lx ly h6 h7 hs hf hc) rfl) fun D σ H q => tL_mono (par_of q) fun vs H1 ⟨q1, q2⟩ => ?_
      have hl : ts.length = 2 := by have := congrArg List.length ht; simpa using this
      obtain ⟨u1, u2, rfl⟩ := len2 (q1.trans hl)
      rw [ht] at q2
      exact ⟨u1, u2, rfl, q2⟩
    · cases h
  · rename_i i j l n1 n2 n3 ht
    split at h
    · rename_i x px y py z pz e1 e2 e3
      obtain rfl := vNmP_ e1
      obtain rfl := vNmP_ e2
      obtain rfl := vNmP_ e3
      simp only [Bool.and_eq_true, decide_eq_true_eq] at h
      obtain ⟨⟨⟨⟨⟨⟨⟨⟨⟨⟨⟨⟨h1, h2⟩, h3⟩, h4⟩, h5⟩, h6⟩, h7⟩, h8⟩, h9⟩, h10⟩, h11⟩, h12⟩, h13⟩ := h
      obtain ⟨v1, v2, v3, rfl⟩ := len3 h13
      have lx := locB_ g.g h7
      have ly := locB_ g.g h8
      have lz := locB_ g.g h9
      refine ps_weak (ps_par3 g.g.calm nd (by rw [g.g.N]; exact h1) (by rw [g.g.N]; exact h2) (by rw [g.g.N]; exact h3) h4 h5 h6 lx ly lz ha (swp3 (bkd_ g) lx ly lz h10 h11 h12 hs hf hc) rfl) fun D σ H q => tL_mono (par_of q) fun vs H1 ⟨q1, q2⟩ => ?_
      have hl : ts.length = 3 := by have := congrArg List.length ht; simpa using this
      obtain ⟨u1, u2, u3, rfl⟩ := len3 (q1.trans hl)
      rw [ht] at q2
      exact ⟨u1, u2, u3, rfl, q2⟩
    · cases h
  · cases h
theorem parU_rule (g : CxS C T G X sc W) {ts : List (Nat × Bool)} {ns vs : List Expr} {kt k2 : Nat} {pt pt2 p : Pos} (h : (nonLoc sc ns || noSwp ns (.Tuple vs k2 pt2)) = true) (ht : tgL true C.N sc (ts.map (·.1)) ns = true) (hs : ns.all notStar = true) (ha : PA X vs (tL T G W ies)) :
    PS X (.Assign [.Tuple ns kt pt] (.Tuple vs k2 pt2) p) (tSt T G W lk (.par ts ies)) := by
  obtain ⟨q1, q2, q3⟩ := tgL_ g.g (fun _ => g.fn) ht hs
  have hw : swappedStores [.Tuple ns kt pt] (.Tuple vs k2 pt2) X.env = pure none := by
    rw [Bool.or_eq_true] at h
    rcases h with h | h
    · exact nonLoc_ (bkd_ g) (by rw [g.g.sc]; exact h)
    · exact noSwp_ (bkd_ g) h
  refine ps_weak (ps_asg (pe_tup ha) (pg_tup g.g.calm q1 q2 q3) (sws_no rfl) hw rfl) fun D σ H q => ?_
  have := parU_of (X := X) q
  rw [List.length_map]
  exact this
end
end B
end

section
set_option Elab.async false
set_option linter.all false
set_option maxRecDepth 100000
set_option maxHeartbeats 4000000
/-! CA: the checker of statements is sound. -/
namespace B
open PySem PySem.Spec PyProof.Rows L2
section
variable {C : Ck} {T : Stat} {G : Sg} {W : WX} {X : Cx} {sc : Scope} {lk : List Nat}
variable {a b c tg : Expr} {es : List Expr} {e ea eb ec : E} {ies : Es} {pos : Pos}
theorem mtr_m {id : String} {r : V → List V → Hp → VK → Prop} (h : MtM X id r) : MtR X id r := h
theorem one_arg (g : CxG C T G X sc W) {x : Expr} (hs : notStar x = true) (h : ckE C sc e x = true) : PA X [x] (tCons (tE T G W e) tNil) := pa_cons (ckE_ e C sc x h X W g).pe pa_nil (star_ hs)
theorem one_all {x : Expr} (hs : notStar x = true) : [x].all notStar = true := by simp [hs]
theorem two_all {x y : Expr} (hs : notStar x = true) (h : notStar y = true) : [x, y].all notStar = true := by simp [hs, h]
mutual
theorem ckS_ : ∀ (s : S) (C : Ck) (sc : Scope) (st : Stmt), ckS C sc s st = true → ∀ (X : Cx) (W : WX) (lk : List Nat), CxS C T G X sc W → PS X st (tSt T G W lk s)
  | .nev, C, sc, st, h, X, W, lk, g => ⟨fun pins s σ H D I ⟨B, H0, oa0, en, o, ow, oa, S, E0, q⟩ => q.elim⟩
  | .set i e, C, sc, st, h, X, W, lk, g => by
    unfold ckS at h
    split at h
    · rename_i tg v p hv
      obtain rfl := vAsg_ hv
      split at h
      · rename_i x px hx
        obtain rfl := vNmP_ hx
        obtain ⟨h1, h4⟩ := and2 h
        obtain ⟨h1, h3⟩ := and2 h1
        obtain ⟨h1, h2⟩ := and2 h1
        exact ps_weak (set_rule g (of_decide_eq_true h1) h2 h3 h4) fun D σ H q => set_of q
      · cases h
    · cases h
  | .own i e, C, sc, st, h, X, W, lk, g => by
    unfold ckS at h
    split at h
    · rename_i tg v p hv
      obtain rfl := vAsg_ hv
      split at h
      · rename_i x px hx
        obtain rfl := vNmP_ hx
        obtain ⟨h1, h4⟩ := and2 h
        obtain ⟨h1, h3⟩ := and2 h1
        obtain ⟨h1, h2⟩ := and2 h1
        exact ps_weak (set_rule g (of_decide_eq_true h1) h2 h3 h4) fun D σ H q => own_of q
      · cases h
    · cases h
  | .par ts es, C, sc, st, h, X, W, lk, g => by
    unfold ckS at h
    split at h
    · rename_i tg v p hv
      obtain rfl := vAsg_ hv
      split at h
      · rename_i ns vs h1 h2
        obtain ⟨kt, pt, rfl⟩ := vTup_ h1
        obtain ⟨k2, pt2, rfl⟩ := vTup_ h2
        obtain ⟨h1, h5⟩ := and2 h
        obtain ⟨h1, h4⟩ := and2 h1
        rw [Bool.or_eq_true] at h1
        rcases h1 with h1 | h1
        · obtain ⟨h1, h3⟩ := and2 h1
          obtain ⟨h1, h2⟩ := and2 h1
          exact par_rule g h1 (by simpa using h2) (by simpa using h3) h4 (ckEs_ es C sc vs h5 X W g.g h4)
        · obtain ⟨h1, h3⟩ := and2 h1
          obtain ⟨h1, h2⟩ := and2 h1
          exact parU_rule g h1 h2 h3 (ckEs_ es C sc vs h5 X W g.g h4)
      · cases h
    · cases h
  | .unp is e, C, sc, st, h, X, W, lk, g => by
    unfold ckS at h
    split at h
    · rename_i tg v p hv
      obtain rfl := vAsg_ hv
      split at h
      · rename_i ns h1
        obtain ⟨kt, pt, rfl⟩ := vTup_ h1
        obtain ⟨h1, h5⟩ := and2 h
        obtain ⟨h1, h4⟩ := and2 h1
        obtain ⟨h1, h3⟩ := and2 h1
        obtain ⟨h1, h2⟩ := and2 h1
        obtain ⟨q1, q2, q3⟩ := tgL_ g.g (fun _ => g.fn) h3 h4
        exact ps_weak (ps_asg (ckE_ e C sc v h5 X W g.g).pe (pg_tup g.g.calm q1 q2 q3) (sws_no h2) (noSwp_ (bkd_ g) h1) rfl) fun D σ H q => unp_of g.g.K q
      · cases h
    · cases h
  | .app i e, C, sc, st, h, X, W, lk, g => by
    unfold ckS at h
    split at h
    · rename_i c p0 hv
      obtain rfl := vEx_ hv
      split at h
      · rename_i ob m x p2 p hm
        obtain rfl := vMeth_ hm
        obtain ⟨h1, h5⟩ := and2 h
        obtain ⟨h1, h4⟩ := and2 h1
        obtain ⟨h1, h3⟩ := and2 h1
        obtain ⟨h1, h2⟩ := and2 h1
        obtain rfl := of_decide_eq_true h1
        obtain ⟨ho, y, py, rfl⟩ := nmAt_ g.g h2
        exact ps_weak (ps_expr (pe_bm PySem.F.plainAttrs_list PySem.F.slot_list_append PySem.F.type_list_append (mtr_m mt_append) ho (one_arg g.g h4 h5) rfl (few_ (one_all h4) (show 1 < 29 by decide)) h3 (star_ h4) rfl) (sw_no rfl)) fun D σ H q => app_of q
      · cases h
    · cases h
  | .ext i e, C, sc, st, h, X, W, lk, g => by
    unfold ckS at h
    split at h
    · rename_i c p0 hv
      obtain rfl := vEx_ hv
      split at h
      · rename_i ob m x p2 p hm
        obtain rfl := vMeth_ hm
        obtain ⟨h1, h5⟩ := and2 h
        obtain ⟨h1, h4⟩ := and2 h1
        obtain ⟨h1, h3⟩ := and2 h1
        obtain ⟨h1, h2⟩ := and2 h1
        obtain rfl := of_decide_eq_true h1
        obtain ⟨ho, y, py, rfl⟩ := nmAt_ g.g h2
        exact ps_weak (ps_expr (pe_bm PySem.F.plainAttrs_list PySem.F.slot_list_extend PySem.F.type_list_extend (mtr_m mt_extend) ho (one_arg g.g h4 h5) rfl (few_ (one_all h4) (show 1 < 29 by decide)) h3 (star_ h4) rfl) (sw_no rfl)) fun D σ H q => ext_of q
      · cases h
    · cases h
  | .pop i, C, sc, st, h, X, W, lk, g => by
    unfold ckS at h
    split at h
    · rename_i c p0 hv
      obtain rfl := vEx_ hv
      split at h
      · rename_i ob m p2 p hm
        obtain rfl := vMeth_ hm
        obtain ⟨h1, h3⟩ := and2 h
        obtain ⟨h1, h2⟩ := and2 h1
        obtain rfl := of_decide_eq_true h1
        obtain ⟨ho, y, py, rfl⟩ := nmAt_ g.g h2
        exact ps_weak (ps_expr (pe_bm0 PySem.F.plainAttrs_list PySem.F.slot_list_pop PySem.F.type_list_pop (mtr_m mt_pop) ho rfl h3) (sw_no rfl)) fun D σ H q => pop_of q
      · cases h
    · cases h
  | .clear i, C, sc, st, h, X, W, lk, g => by
    unfold ckS at h
    split at h
    · rename_i c p0 hv
      obtain rfl := vEx_ hv
      split at h
      · rename_i ob m p2 p hm
        obtain rfl := vMeth_ hm
        obtain ⟨h1, h3⟩ := and2 h
        obtain ⟨h1, h2⟩ := and2 h1
        obtain rfl := of_decide_eq_true h1
        obtain ⟨ho, y, py, rfl⟩ := nmAt_ g.g h2
        exact ps_weak (ps_expr (pe_bm0 PySem.F.plainAttrs_list PySem.F.slot_list_clear PySem.F.type_list_clear (mtr_m mt_clear) ho rfl h3) (sw_no rfl)) fun D σ H q => clear_of q
      · cases h
    · cases h
  | .popTo j i k, C, sc, st, h, X, W, lk, g => by
    unfold ckS at h
    split at h
    · rename_i tg c p0 hv
      obtain rfl := vAsg_ hv
      split at h
      · rename_i y py ob m x p2 p hy hm
        obtain rfl := vNmP_ hy
        obtain rfl := vMeth_ hm
        obtain ⟨h1, h7⟩ := and2 h
        obtain ⟨h1, h6⟩ := and2 h1
        obtain ⟨h1, h5⟩ := and2 h1
        obtain ⟨h1, h4⟩ := and2 h1
        obtain ⟨h1, h3⟩ := and2 h1
        obtain ⟨h1, h2⟩ := and2 h1
        have hj := of_decide_eq_true h1
        obtain rfl := of_decide_eq_true h3
        obtain ⟨ho, z, pz, rfl⟩ := nmAt_ g.g h4
        exact ps_weak (ps_set (i := j) (by rw [g.g.N]; exact g.g.nd) (by rw [g.g.N]; exact hj) (locC_ g.g h2) (pe_bm PySem.F.plainAttrs_list PySem.F.slot_list_pop PySem.F.type_list_pop (mtr_m mt_popAt) ho (one_arg g.g h6 h7) rfl (few_ (one_all h6) (show 1 < 29 by decide)) h5 (star_ h6) rfl) (sw_no rfl) (.inl (g.fn _))) fun D σ H q => popTo_of q
      · cases h
    · cases h
  | .insert i k e, C, sc, st, h, X, W, lk, g => by
    unfold ckS at h
    split at h
    · rename_i c p0 hv
      obtain rfl := vEx_ hv
      split at h
      · rename_i ob m x y p2 p hm
        obtain rfl := vMeth_ hm
        obtain ⟨h1, h7⟩ := and2 h
        obtain ⟨h1, h6⟩ := and2 h1
        obtain ⟨h1, h5⟩ := and2 h1
        obtain ⟨h1, h4⟩ := and2 h1
        obtain ⟨h1, h3⟩ := and2 h1
        obtain ⟨h1, h2⟩ := and2 h1
        obtain rfl := of_decide_eq_true h1
        obtain ⟨ho, z, pz, rfl⟩ := nmAt_ g.g h2
        have ha : PA X [x, y] (tCons (tE T G W k) (tCons (tE T G W e) tNil)) := pa_cons (ckE_ k C sc x h6 X W g.g).pe (one_arg g.g h5 h7) (star_ h4)
        exact ps_weak (ps_expr (pe_bm PySem.F.plainAttrs_list PySem.F.slot_list_insert PySem.F.type_list_insert mt_insert ho ha rfl (few_ (two_all h4 h5) (show 2 < 29 by decide)) h3 (star_ h4) (back_any (one_all h5))) (sw_no rfl)) fun D σ H q => insert_of q
      · cases h
    · cases h
  | .seti i k e, C, sc, st, h, X, W, lk, g => by
    unfold ckS at h
    split at h
    · rename_i tg v p hv
      obtain rfl := vAsg_ hv
      split at h
      · rename_i ob ix hx
        obtain ⟨pp, rfl⟩ := vSub_ hx
        obtain ⟨h1, h5⟩ := and2 h
        obtain ⟨h1, h4⟩ := and2 h1
        obtain ⟨h1, h3⟩ := and2 h1
        obtain ⟨h1, h2⟩ := and2 h1
        obtain ⟨ho, z, pz, rfl⟩ := nmAt_ g.g h1
        exact ps_weak (ps_asg (ckE_ e C sc v h5 X W g.g).pe (pg_sub ho (ckE_ k C sc ix h4 X W g.g).pe set_list (fun v => by cases ix <;> first | rfl | cases h2)) (sws_no h3) (by cases v <;> rfl) rfl) fun D σ H q => seti_of q
      · cases h
    · cases h
  | .dset i k e, C, sc, st, h, X, W, lk, g => by
    unfold ckS at h
    split at h
    · rename_i tg v p hv
      obtain rfl := vAsg_ hv
      split at h
      · rename_i ob ix hx
        obtain ⟨pp, rfl⟩ := vSub_ hx
        obtain ⟨h1, h5⟩ := and2 h
        obtain ⟨h1, h4⟩ := and2 h1
        obtain ⟨h1, h3⟩ := and2 h1
        obtain ⟨h1, h2⟩ := and2 h1
        obtain ⟨ho, z, pz, rfl⟩ := nmAt_ g.g h1
        exact ps_weak (ps_dput (Nat.lt_of_le_of_lt (Nat.add_le_add_left (by decide) _) g.g.u) ho (ckE_ k C sc ix h4 X W g.g).pe (ckE_ e C sc v h5 X W g.g).pe (sw_no h3)) fun D σ H q => dset_of q
      · cases h
    · cases h
  | .aug i e, C, sc, st, h, X, W, lk, g => by
    unfold ckS at h
    split at h
    · rename_i tg o v hv
      obtain ⟨p, rfl⟩ := vAug_ hv
      split at h
      · rename_i x px hx
        obtain rfl := vNmP_ hx
        obtain ⟨h1, h4⟩ := and2 h
        obtain ⟨h1, h3⟩ := and2 h1
        obtain ⟨h1, h2⟩ := and2 h1
        have hj := of_decide_eq_true h1
        obtain rfl := of_decide_eq_true h3
        exact ps_weak (ps_aug (by rw [g.g.N]; exact g.g.nd) (by rw [g.g.N]; exact hj) (locC_ g.g h2) (ckE_ e C sc v h4 X W g.g).pe ip_add (.inl (g.fn _))) fun D σ H q => aug_of q
      · cases h
    · cases h
  | .ife c p q, C, sc, st, h, X, W, lk, g => by
    unfold ckS at h
    split at h
    · rename_i ac ap aq hv
      obtain ⟨ps, rfl⟩ := vIfS_ hv
      obtain ⟨h1, h4⟩ := and2 h
      obtain ⟨h1, h3⟩ := and2 h1
      obtain ⟨h1, h2⟩ := and2 h1
      exact ps_weak (ps_if ((ckE_ c C sc ac h2 X W g.g).pt h1) (ckSs_ p C sc ap h3 X W lk g) (ckSs_ q C sc aq h4 X W lk g)) fun D σ H q => ife_of q
    · cases h
  | .for tg it body, C, sc, st, h, X, W, lk, g => by
    unfold ckS at h
    split at h
    · rename_i at_ ai ab hv
      obtain ⟨ps, rfl⟩ := vFor_ hv
      obtain ⟨h1, h4⟩ := and2 h
      obtain ⟨h1, h3⟩ := and2 h1
      obtain ⟨h1, h2⟩ := and2 h1
      exact ps_weak (ps_for g.ps g.g.calm (ckIt_ it C sc at_ ai h3 X W g.g) (tgB_ g.g (fun _ => g.fn) h2) (ckSs_ body C sc ab h4 X W (it.slots ++ lk) g) (fold_ h1)) fun D σ H q => for_of g.g.K q
    · cases h
  | .whl n c body, C, sc, st, h, X, W, lk, g => by
    unfold ckS at h
    split at h
    · rename_i ac ab hv
      obtain ⟨ps, rfl⟩ := vWhl_ hv
      obtain ⟨h1, h3⟩ := and2 h
      obtain ⟨h1, h2⟩ := and2 h1
      exact ps_weak (ps_while g.ps ((ckE_ c C sc ac h2 X W g.g).pt h1) (ckSs_ body C sc ab h3 X W lk g)) fun D σ H q => whl_of q
    · cases h
  | .ret e, C, sc, st, h, X, W, lk, g => by
    unfold ckS at h
    split at h
    · rename_i v hv
      obtain ⟨p, rfl⟩ := vRet_ hv
      exact ps_weak (ps_ret (ckE_ e C sc v h X W g.g).pe) fun D σ H q => ret_of q
    · cases h
  | .retOwn i, C, sc, st, h, X, W, lk, g => by
    unfold ckS at h
    split at h
    · rename_i v hv
      obtain ⟨p, rfl⟩ := vRet_ hv
      exact ps_weak (ps_ret (nmAt_ g.g h).1) fun D σ H q => retOwn_of q
    · cases h
  | .retN, C, sc, st, h, X, W, lk, g => by
    unfold ckS at h
    split at h
    · rename_i hv
      obtain ⟨p, rfl⟩ := vRet_ hv
      exact ps_weak ps_retN fun D σ H q => retN_of q
    · cases h
  | .brk, C, sc, st, h, X, W, lk, g => by
    unfold ckS at h
    cases st <;> first | exact ps_weak ps_break fun D σ H ⟨B, H0, oa0, en, o, ow, oa, S, E0, q⟩ => q σ H ow oa S .refl E0 | cases h
  | .cnt, C, sc, st, h, X, W, lk, g => by
    unfold ckS at h
    cases st <;> first | exact ps_weak ps_continue fun D σ H ⟨B, H0, oa0, en, o, ow, oa, S, E0, q⟩ => q σ H ow oa S .refl E0 | cases h
  | .pass, C, sc, st, h, X, W, lk, g => by
    unfold ckS at h
    cases st <;> first | exact ps_weak ps_pass fun D σ H ⟨B, H0, oa0, en, o, ow, oa, S, E0, q⟩ => q σ H ow oa S .refl E0 | cases h
  | .drop e, C, sc, st, h, X, W, lk, g => by
    unfold ckS at h
    split at h
    · rename_i v p hv
      obtain rfl := vEx_ hv
      obtain ⟨h1, h2⟩ := and2 h
      exact ps_weak (ps_expr (ckE_ e C sc v h2 X W g.g).pe (sw_no h1)) fun D σ H q => drop_of q
    · cases h
  | .rse _, _, _, _, h, _, _, _, _ => by unfold ckS at h; cases h
theorem ckSs_ : ∀ (s : Ss) (C : Ck) (sc : Scope) (sts : List Stmt), ckSs C sc s sts = true → ∀ (X : Cx) (W : WX) (lk : List Nat), CxS C T G X sc W → PSs X sts (tSs T G W lk s)
  | .nil, C, sc, sts, h, X, W, lk, g => by
    cases sts with
    | nil => exact ss_nil
    | cons => unfold ckSs at h; cases h
  | .cons s r, C, sc, sts, h, X, W, lk, g => by
    cases sts with
    | nil => unfold ckSs at h; cases h
    | cons st sts =>
      unfold ckSs at h
      obtain ⟨h1, h2⟩ := and2 h
      exact ss_cons (ckS_ s C sc st h1 X W lk g) (ckSs_ r C sc sts h2 X W lk g)
  | .frz i r, C, sc, sts, h, X, W, lk, g => by
    have h' : ckSs C sc r sts = true := by
      cases sts <;> (unfold ckSs at h; exact h)
    exact ss_frz (ckSs_ r C sc sts h' X W lk g)
end
end
end B
end

section
set_option Elab.async false
set_option linter.all false
set_option maxRecDepth 100000
set_option maxHeartbeats 2000000
/-! CB: a whole program of defs. -/
namespace B
open PySem PySem.Spec PyProof.Rows L2
structure DT where
  id : Nat
  nm : Str
  st : Stmt
  N : List Str
  ps : List Str
  body : Ss
def DT.ck (ds : List DT) (cts : List (Nat × Str)) (j : Nat) (d : DT) : Bool := ckSs ⟨d.N, (ds.take j).map fun d => (d.id, d.nm, d.ps.length), cts⟩ (defScope d.st) d.body (defBody d.st)
def scB (N P : List Str) (sc : Scope) : Bool := (match sc.kind with | .function => true | _ => false) && !sc.isCoroutine && !sc.isGenerator && decide N.Nodup && decide (N.take P.length = P) &&
  (P.all fun x => decide (sc.names.lookup x = some .local) || decide (sc.names.lookup x = some .cell)) && (sc.names.all fun y => decide (y.2 ≠ .free))
theorem scB_ {N P : List Str} {sc : Scope} (h : scB N P sc = true) : FnScope N P sc := by
  unfold scB at h
  simp only [Bool.and_eq_true, List.all_eq_true, Bool.or_eq_true, decide_eq_true_eq] at h
  obtain ⟨⟨⟨⟨⟨⟨h1, h2⟩, h3⟩, h4⟩, h5⟩, h6⟩, h7⟩ := h
  refine ⟨?_, by simpa using h2, by simpa using h3, h4, h5, h6, h7⟩
  split at h1
  · assumption
  · cases h1
/-- every def's text is what its IR says -/
def ckAll (ds : List DT) (cts : List (Nat × Str)) : Bool := (List.range ds.length).all fun j => match ds[j]? with
  | some d => DT.ck ds cts j d && scB d.N d.ps (defScope d.st)
  | none => true
theorem ckAll_ {ds : List DT} {cts : List (Nat × Str)} (h : ckAll ds cts = true) {j : Nat} {d : DT} (hd : ds[j]? = some d) : DT.ck ds cts j d = true ∧ FnScope d.N d.ps (defScope d.st) := by
  have hj : j < ds.length := by
    obtain ⟨z, _⟩ := List.getElem?_eq_some_iff.mp hd
    exact z
  have := List.all_eq_true.mp h j (List.mem_range.mpr hj)
  rw [hd] at this
  obtain ⟨h1, h2⟩ := and2 this
  exact ⟨h1, scB_ h2⟩
section
variable {P : Program} {w : World} {K : PySem.W.Frag} {mg : Str → Option Value} {base : Heap} {T : Stat} {G : Sg} {ds : List DT} {cts : List (Nat × Str)}
theorem look_mem {α : Type} : ∀ {l : List (Nat × α)} {j : Nat} {x : α}, l.lookup j = some x → (j, x) ∈ l
  | [], _, _, h => by cases h
  | (i, y) :: l, j, x, h => by
    rw [List.lookup_cons] at h
    cases e : j == i with
    | true =>
      rw [e] at h
      cases h
      rw [beq_iff_eq.mp e]
      exact List.mem_cons_self
    | false =>
      rw [e] at h
      exact List.mem_cons_of_mem _ (look_mem h)
theorem look_at : ∀ {l : List DT} {j n : Nat} {x : Str}, (l.map fun d => (d.id, d.nm, d.ps.length)).lookup j = some (x, n) → ∃ (i : Nat) (d : DT), l[i]? = some d ∧ d.id = j ∧ d.nm = x ∧ d.ps.length = n
  | [], _, _, _, h => by cases h
  | d :: l, j, n, x, h => by
    rw [List.map_cons, List.lookup_cons] at h
    cases e : j == d.id with
    | true =>
      rw [e] at h
      cases h
      exact ⟨0, d, rfl, (beq_iff_eq.mp e).symm, rfl, rfl⟩
    | false =>
      rw [e] at h
      obtain ⟨i, d', h1, h2⟩ := look_at h
      exact ⟨i + 1, d', h1, h2⟩
theorem prog_ok (hT : T.K = K) (hck : ckAll ds cts = true) (hF : ∀ (j : Nat) d, ds[j]? = some d → ∀ rs o, (G.fn d.id rs o).isBad = false → runDef G d.body d.N.length rs o = G.fn d.id rs o)
    (hfun : ∀ (j : Nat) d, ds[j]? = some d → ∃ f fd, Fun K d.nm d.nm d.st f fd ∧ Binds K fd d.ps [] ∧ mg d.nm = some (.ref f))
    (hct : ∀ (j : Nat) x, cts.lookup j = some x → ∃ u v, mg x = some u ∧ RelV v u ∧ ∀ H bk oa, Rep T H bk oa v (G.ct j)) (hblt : ∀ x ∈ bltNames, mg x = none) :
    ∀ (n j : Nat), j ≤ n → ∀ d, ds[j]? = some d → ∀ f fd, Fun K d.nm d.nm d.st f fd → FnOk P w K mg base (L2.CX P w) (j + 1) f fd d.ps (spD T (G.fn d.id) d.ps.length) := by
  intro n
  induction n with
  | zero =>
    intro j hj d hd f fd Fn
    have e : j = 0 := by omega
    subst e
    obtain ⟨c1, S⟩ := ckAll_ hck hd
    have hps : d.ps.length ≤ d.N.length := by
      have := congrArg List.length S.pre
      rw [List.length_take] at this
      omega
    refine def_ok Fn S rfl hps (hF 0 d hd) fun X W x tk pass fn => ckSs_ _ _ _ _ c1 X W [] ⟨⟨by rw [hT, x.K], x.calm, x.N, S.nd, x.sc, x.room.units, tk, fun j x n h => ?_, fun j y h => ?_, fun y hy => by rw [x.mg]; exact hblt y hy⟩, fn, pass, S.kind⟩
    · rw [List.take_zero] at h
      cases h
    · rw [x.mg]; exact hct j y h
  | succ n ih =>
    intro j hj d hd f fd Fn
    by_cases hjn : j ≤ n
    · exact ih j hjn d hd f fd Fn
    have e : j = n + 1 := by omega
    subst e
    obtain ⟨c1, S⟩ := ckAll_ hck hd
    have hps : d.ps.length ≤ d.N.length := by
      have := congrArg List.length S.pre
      rw [List.length_take] at this
      omega
    refine def_ok Fn S rfl hps (hF (n + 1) d hd) fun X W x tk pass fn => ckSs_ _ _ _ _ c1 X W [] ⟨⟨by rw [hT, x.K], x.calm, x.N, S.nd, x.sc, x.room.units, tk, fun j y m h => ?_, fun j y h => ?_, fun y hy => by rw [x.mg]; exact hblt y hy⟩, fn, pass, S.kind⟩
    · obtain ⟨i, d', h1, h0, h2, h3⟩ := look_at h
      have hj2 : i < n + 1 := by
        obtain ⟨z, _⟩ := List.getElem?_eq_some_iff.mp h1
        rw [List.length_take] at z
        omega
      rw [List.getElem?_take_of_lt hj2] at h1
      subst h0
      subst h2
      subst h3
      obtain ⟨f', fd', q1, q2, q3⟩ := hfun i d' h1
      refine ⟨i + 1, f', fd', d'.ps, ?_, x.room.mono (by omega), by rw [x.mg]; exact q3, by rw [x.K]; exact q1.kp, by rw [x.K]; exact q2⟩
      rw [x.prog, x.wd, x.K, x.mg, x.base]
      exact ih i (by omega) d' h1 f' fd' q1
    · rw [x.mg]; exact hct j y h
end
/-- what a law's answer is to be -/
theorem law_end {T : Stat} {K : PySem.W.Frag} {H : Hp} {a : Addr} {ns : List Int} {F : List R → Objs → Rs R} (hT : T.K = K) (hO : Only H) (hS : SqL K H a (ns.map V.int)) (hF : F [⟨.scr ns, .fz⟩] [] = .ok ⟨.bl true, .fz⟩ []) :
    spD T F 1 [.ref a] H (fun v _ => v = .bl true) fun _ _ _ => False := by
  have rs : Rep T H (bkS (fun _ => False) ow0 []) [] (.ref a) (.scr ns) := by
    refine .scr ?_
    rcases hS with (h | ⟨u, h⟩) | h
    · rcases hO a with z | ⟨o, xs, z⟩
      · rw [z] at h; cases h
      · rw [z] at h; cases h
    · exact .inl ⟨u, h⟩
    · exact .inr (by rw [hT]; exact h)
  refine ⟨rfl, fun _ => False, [⟨.scr ns, .fz⟩], [], [], fun b h => h.elim, ⟨rfl, List.nodup_nil, fun n fs h => by cases h⟩, .cons ⟨rs, fun _ => rs⟩ .nil, ?_⟩
  rw [hF]
  intro v H' oa' E1 R1
  have : Rep T H' (bkS (fun _ => False) ow0 oa') oa' v (.bl true) := R1
  cases this
  rfl
/-! ### constants -/
theorem con_int {T : Stat} {i : Int} {t : Tok} : ∃ v, RelV v (.int i t) ∧ ∀ H bk oa, Rep T H bk oa v (.int i) := ⟨.int i, ⟨t, rfl⟩, fun _ _ _ => .int i⟩
theorem con_str {T : Stat} {s : Txt} {t : Tok} (h : okTB s = true) : ∃ v, RelV v (.str (tS s) t) ∧ ∀ H bk oa, Rep T H bk oa v (.str s) := ⟨.str (tS s), ⟨t, rfl⟩, fun _ _ _ => .str (okTB_ h)⟩
/-- items of a constant tuple -/
inductive Cons_ (T : Stat) : List Value → List D → Prop
  | nil : Cons_ T [] []
  | cons {u : Value} {us : List Value} {d : D} {ds : List D} : (∃ v, RelV v u ∧ ∀ H bk oa, Rep T H bk oa v d) → Cons_ T us ds → Cons_ T (u :: us) (d :: ds)
theorem Cons_.vals {T : Stat} : ∀ {us : List Value} {ds : List D}, Cons_ T us ds → ∃ vs, Vals vs us ∧ ∀ H bk oa, Reps T H bk oa vs ds
  | _, _, .nil => ⟨[], .nil, fun _ _ _ => .nil⟩
  | _, _, .cons ⟨v, r, h⟩ t => by
    obtain ⟨vs, h1, h2⟩ := t.vals
    exact ⟨v :: vs, .cons r h1, fun H bk oa => .cons (h H bk oa) (h2 H bk oa)⟩
theorem con_tup {T : Stat} {a : Addr} {o : Obj} {us : List Value} {n : Nat} {ds : List D} (l : T.K.lookup a = some o) (c : o.cls = .type "tuple") (d : o.data = .seq us.toArray n) (h : Cons_ T us ds) (hl : us.length ≤ 1000) : ∃ v, RelV v (.ref a) ∧ ∀ H bk oa, Rep T H bk oa v (.tup ds) := by
  obtain ⟨vs, h1, h2⟩ := h.vals
  refine ⟨.ref a, rfl, fun H bk oa => .tup (.inr ⟨o, us.toArray, n, l, c, d, ?_, ?_⟩) (h2 H bk oa)⟩
  · rw [List.size_toArray]; exact Nat.le_trans hl (by decide)
  · simpa using h1
end B
end

section
set_option Elab.async false
set_option linter.all false
set_option maxRecDepth 100000
set_option maxHeartbeats 2000000
/-! CC: the evaluator's equations, as simp wants them. -/
namespace B
theorem cg_bind {α β : Type} (x y : Rs α) (f : α → Objs → Rs β) (h : x = y) : x.bind f = y.bind f := by rw [h]
theorem cg_out {α : Type} (x y : Rs α) (f : α → Objs → Out) (h : x = y) : x.out f = y.out f := by rw [h]
theorem cg_seq (x y : Out) (f : Env → Objs → Out) (h : x = y) : x.seq f = y.seq f := by rw [h]
/-- a truth chooses -/
def D.cnd {α : Type} (d : D) (a b z : α) : α := match d with
  | .bl true => a
  | .bl false => b
  | _ => z
theorem cg_cnd {α : Type} (d e : D) (x y z : α) (h : d = e) : d.cnd x y z = e.cnd x y z := by rw [h]
theorem cnd_bl {α : Type} (p : Bool) (a b z : α) : (D.bl p).cnd a b z = if p = true then a else b := by cases p <;> rfl
def sl (en : Env) (i : Nat) : Option Slot := en[i]?
theorem sl_0 (s : Slot) (en : Env) : sl (s :: en) 0 = some s := rfl
theorem sl_s (s : Slot) (en : Env) (i : Nat) : sl (s :: en) (i + 1) = sl en i := rfl
def rd : Option Slot → Objs → Rs R
  | some (.val r), o => .ok r.pass o
  | some (.own xs), o => .ok ⟨.lst xs, .al⟩ o
  | some (.ownd kvs), o => .ok ⟨.dct kvs, .al⟩ o
  | _, _ => .bad
theorem rd_val (r : R) (o : Objs) : rd (some (.val r)) o = .ok r.pass o := rfl
theorem rd_own (xs : List D) (o : Objs) : rd (some (.own xs)) o = .ok ⟨.lst xs, .al⟩ o := rfl
theorem rd_ownd (xs : List (DKey × Sc)) (o : Objs) : rd (some (.ownd xs)) o = .ok ⟨.dct xs, .al⟩ o := rfl
theorem pass_fz (d : D) : (R.mk d .fz).pass = ⟨d, .fz⟩ := rfl
theorem pass_ex (d : D) : (R.mk d .ex).pass = ⟨d, .fz⟩ := rfl
theorem pass_al (d : D) : (R.mk d .al).pass = ⟨d, .al⟩ := rfl
theorem bind_ok {α β : Type} (a : α) (o : Objs) (f : α → Objs → Rs β) : (Rs.ok a o).bind f = f a o := rfl
theorem bind_bad {α β : Type} (f : α → Objs → Rs β) : (Rs.bad : Rs α).bind f = .bad := rfl
theorem out_ok {α : Type} (a : α) (o : Objs) (f : α → Objs → Out) : (Rs.ok a o).out f = f a o := rfl
theorem out_bad {α : Type} (f : α → Objs → Out) : (Rs.bad : Rs α).out f = .bad := rfl
theorem seq_next (en : Env) (o : Objs) (f : Env → Objs → Out) : (Out.next en o).seq f = f en o := rfl
theorem seq_ret (r : R) (o : Objs) (f : Env → Objs → Out) : (Out.ret r o).seq f = .ret r o := rfl
theorem seq_brk (en : Env) (o : Objs) (f : Env → Objs → Out) : (Out.brk en o).seq f = .brk en o := rfl
theorem seq_cnt (en : Env) (o : Objs) (f : Env → Objs → Out) : (Out.cnt en o).seq f = .cnt en o := rfl
theorem seq_bad (f : Env → Objs → Out) : Out.bad.seq f = .bad := rfl
theorem ofO_some {α : Type} (a : α) (o : Objs) : ofO o (some a) = .ok a o := rfl
theorem ofO_none {α : Type} (o : Objs) : ofO o (none : Option α) = .bad := rfl
theorem out_if {α : Type} (p : Prop) [Decidable p] (a b : Rs α) (f : α → Objs → Out) : (if p then a else b).out f = if p then a.out f else b.out f := by split <;> rfl
theorem bind_if {α β : Type} (p : Prop) [Decidable p] (a b : Rs α) (f : α → Objs → Rs β) : (if p then a else b).bind f = if p then a.bind f else b.bind f := by split <;> rfl
theorem seq_if (p : Prop) [Decidable p] (a b : Out) (f : Env → Objs → Out) : (if p then a else b).seq f = if p then a.seq f else b.seq f := by split <;> rfl
theorem ofO_if {α : Type} (p : Prop) [Decidable p] (a b : Option α) (o : Objs) : ofO o (if p then a else b) = if p then ofO o a else ofO o b := by split <;> rfl
theorem map_if {α β : Type} (p : Prop) [Decidable p] (a b : Option α) (f : α → β) : (if p then a else b).map f = if p then a.map f else b.map f := by split <;> rfl
section
variable (G : Sg) (en : Env) (o : Objs) (a b c : E) (lk : List Nat)
theorem ev_var (i : Nat) : (E.var i).ev G en o = rd (sl en i) o := by
  show (match en[i]? with
    | some (.val r) => Rs.ok r.pass o
    | some (.own xs) => .ok ⟨.lst xs, .al⟩ o
    | some (.ownd kvs) => .ok ⟨.dct kvs, .al⟩ o
    | _ => .bad) = rd en[i]? o
  cases en[i]? with
  | none => rfl
  | some s => cases s <;> rfl
theorem ev_int (i : Int) : (E.int i).ev G en o = .ok ⟨.int i, .fz⟩ o := rfl
theorem ev_str (s : Txt) : (E.str s).ev G en o = .ok ⟨.str s, .fz⟩ o := rfl
theorem ev_bl (s : Bool) : (E.bl s).ev G en o = .ok ⟨.bl s, .fz⟩ o := rfl
theorem ev_non : E.non.ev G en o = .ok ⟨.non, .fz⟩ o := rfl
theorem ev_glb (j : Nat) : (E.glb j).ev G en o = .ok ⟨G.ct j, .fz⟩ o := rfl
theorem ev_op (p : Op) : (E.op p a b).ev G en o = (a.ev G en o).bind fun x o => (b.ev G en o).bind fun y o => ofO o ((p.ev x.d y.d).map fun d => ⟨d, p.kd d⟩) := rfl
def D.ngI : D → Option D
  | .int i => some (.int (-i))
  | _ => none
theorem ngI_int (i : Int) : (D.int i).ngI = some (.int (-i)) := rfl
theorem ev_neg : (E.neg a).ev G en o = (a.ev G en o).bind fun x o => ofO o (x.d.ngI.map fun d => ⟨d, .fz⟩) := by
  show (a.ev G en o).bind _ = _
  cases a.ev G en o with
  | ok x o => show (match x.d with | .int i => Rs.ok (⟨.int (-i), .fz⟩ : R) o | _ => .bad) = ofO o (x.d.ngI.map fun d => ⟨d, .fz⟩); cases x.d <;> rfl
  | _ => rfl
def D.nt : D → Option D
  | .bl i => some (.bl (!i))
  | _ => none
theorem nt_bl (i : Bool) : (D.bl i).nt = some (.bl (!i)) := rfl
theorem ev_not : (E.not a).ev G en o = (a.ev G en o).bind fun x o => ofO o (x.d.nt.map fun d => ⟨d, .fz⟩) := by
  show (a.ev G en o).bind _ = _
  cases a.ev G en o with
  | ok x o => show (match x.d with | .bl i => Rs.ok (⟨.bl (!i), .fz⟩ : R) o | _ => .bad) = ofO o (x.d.nt.map fun d => ⟨d, .fz⟩); cases x.d <;> rfl
  | _ => rfl
theorem bind_c {α β : Type} (x : Rs α) (f g : α → Objs → Rs β) (h : ∀ a o, f a o = g a o) : x.bind f = x.bind g := by cases x <;> first | exact h _ _ | rfl
theorem out_c {α : Type} (x : Rs α) (f g : α → Objs → Out) (h : ∀ a o, f a o = g a o) : x.out f = x.out g := by cases x <;> first | exact h _ _ | rfl
theorem cnd_c {α : Type} (d : D) (x y z : α) : (match d with | .bl true => x | .bl false => y | _ => z) = d.cnd x y z := by cases d <;> first | (rename_i b; cases b <;> rfl) | rfl
theorem ev_and : (E.and a b).ev G en o = (a.ev G en o).bind fun x o => x.d.cnd (b.ev G en o) (.ok ⟨.bl false, .fz⟩ o) .bad := bind_c _ _ _ fun x o => cnd_c _ _ _ _
theorem ev_or : (E.or a b).ev G en o = (a.ev G en o).bind fun x o => x.d.cnd (.ok ⟨.bl true, .fz⟩ o) (b.ev G en o) .bad := bind_c _ _ _ fun x o => cnd_c _ _ _ _
theorem ev_one : (E.one a).ev G en o = a.ev G en o := rfl
theorem ev_ife : (E.ife c a b).ev G en o = (c.ev G en o).bind fun x o => x.d.cnd (a.ev G en o) (b.ev G en o) .bad := bind_c _ _ _ fun x o => cnd_c _ _ _ _
def oc {α : Type} (d : Option D) (x y z : α) : α := match d with
  | some d => d.cnd x y z
  | none => z
theorem cg_oc {α : Type} (d e : Option D) (x y z : α) (h : d = e) : oc d x y z = oc e x y z := by rw [h]
theorem oc_bl {α : Type} (p : Bool) (x y z : α) : oc (some (.bl p)) x y z = if p = true then x else y := cnd_bl p x y z
theorem ev_chain (p q : Op) : (E.chain p q a b c).ev G en o = (a.ev G en o).bind fun x o => (b.ev G en o).bind fun y o => oc (p.ev x.d y.d) ((c.ev G en o).bind fun z o => ofO o ((q.ev y.d z.d).map fun d => ⟨d, .fz⟩)) (.ok ⟨.bl false, .fz⟩ o) .bad :=
  bind_c _ _ _ fun x o => bind_c _ _ _ fun y o => by
    cases p.ev x.d y.d with
    | none => rfl
    | some d => cases d <;> first | (rename_i b; cases b <;> rfl) | rfl
theorem ev_call (f : Nat) (as : Es) : (E.call f as).ev G en o = (as.ev G en o).bind fun xs o => G.fn f (xs.map R.pass) o := rfl
theorem ev_bi (f : Bi) (as : Es) : (E.bi f as).ev G en o = (as.ev G en o).bind fun xs o => ofO o (f.ev (xs.map fun r : R => r.d)) := rfl
theorem ev_isi (t : Ty) : (E.isi a t).ev G en o = (a.ev G en o).bind fun x o => ofO o ((t.has G.sub x.d).map fun b => ⟨.bl b, .fz⟩) := rfl
theorem ev_mt (m : Mt) (as : Es) : (E.mt m a as).ev G en o = (a.ev G en o).bind fun x o => if m.rcv x.d = true then (as.ev G en o).bind fun xs o => ofO o (m.ev x.d (xs.map fun r : R => r.d)) else .bad := rfl
theorem ev_ix : (E.ix a b).ev G en o = (a.ev G en o).bind fun x o => (b.ev G en o).bind fun y o => ofO o (ixEv x.d y.d) := rfl
theorem ev_sl : (E.sl a b c).ev G en o = (a.ev G en o).bind fun x o => (optI b.isHole (b.ev G en o) o).bind fun l o => (optI c.isHole (c.ev G en o) o).bind fun h o => ofO o (slEv x.d l h) := rfl
def D.toI : D → Option Int
  | .int i => some i
  | _ => none
theorem toI_int (i : Int) : (D.int i).toI = some i := rfl
theorem optI_t (x : Rs R) : optI true x o = .ok none o := rfl
theorem optI_f (x : Rs R) : optI false x o = x.bind fun x o => ofO o (x.d.toI.map some) := by
  cases x with
  | ok x o => show (match x.d with | .int i => Rs.ok (some i) o | _ => .bad) = ofO o (x.d.toI.map some); cases x.d <;> rfl
  | _ => rfl
theorem ev_lst (as : Es) : (E.lst as).ev G en o = (as.ev G en o).bind fun xs o => if ((xs.all fun x => decide (x.k ≠ .al)) && decide (xs.length ≤ bigL)) = true then .ok ⟨.lst (xs.map fun r : R => r.d), .ex⟩ o else .bad := rfl
theorem ev_tup (as : Es) : (E.tup as).ev G en o = (as.ev G en o).bind fun xs o => if ((xs.all fun x => decide (x.k ≠ .al)) && decide (xs.length ≤ bigL)) = true then .ok ⟨.tup (xs.map fun r : R => r.d), .fz⟩ o else .bad := rfl
theorem ev_nil : Es.nil.ev G en o = .ok [] o := rfl
theorem ev_cons (r : Es) : (Es.cons a r).ev G en o = (a.ev G en o).bind fun x o => (r.ev G en o).bind fun xs o => .ok (x :: xs) o := rfl
theorem ss_nil_ : Ss.nil.ev G lk en o = .next en o := rfl
theorem ss_cons_ (s : S) (r : Ss) : (Ss.cons s r).ev G lk en o = (s.ev G lk en o).seq (r.ev G lk) := rfl
theorem s_set (i : Nat) : (S.set i a).ev G lk en o = (a.ev G en o).out fun r o => outO (put1 lk i false r en) o := rfl
theorem s_own (i : Nat) : (S.own i a).ev G lk en o = (a.ev G en o).out fun r o => outO (put1 lk i true r en) o := rfl
theorem s_par (ts : List (Nat × Bool)) (es : Es) : (S.par ts es).ev G lk en o = (es.ev G en o).out fun rs o => outO (if ts.length ≤ 1000 then putAll lk ts rs en else none) o := rfl
theorem s_ife (p q : Ss) : (S.ife c p q).ev G lk en o = (c.ev G en o).out fun x o => x.d.cnd (p.ev G lk en o) (q.ev G lk en o) .bad := out_c _ _ _ fun x o => cnd_c _ _ _ _
/-- a loop's body at an item -/
def loopB (tg : Tg) (lk : List Nat) (body : Ss) (d : D) (en : Env) (o : Objs) : Out := match putTg lk tg d en with
  | some en => body.ev G lk en o
  | none => .bad
theorem s_for (tg : Tg) (it : It) (body : Ss) : (S.for tg it body).ev G lk en o = (it.ev G en o).out fun x o => forGo (loopB G tg (it.slots ++ lk) body) x.1 en o := rfl
theorem s_whl (n : Nat) (body : Ss) : (S.whl n c body).ev G lk en o = whlGo (c.ev G) (body.ev G lk) n en o := rfl
theorem s_drop : (S.drop a).ev G lk en o = (a.ev G en o).out fun _ o => .next en o := rfl
theorem s_app (i : Nat) : (S.app i a).ev G lk en o = if isOwn i en = true then (a.ev G en o).out fun r o => if r.k ≠ Kd.al then outO (onOwn lk i en fun xs => some (xs ++ [r.d])) o else .bad else .bad := rfl
def obE (x : Option Env) (f : Env → Out) : Out := match x with
  | some en => f en
  | none => .bad
theorem obE_s (f : Env → Out) : obE (some en) f = f en := rfl
theorem loop_1 (i : Nat) (body : Ss) (d : D) : loopB G (.one i) lk body d en o = obE (put1 lk i false ⟨d, .fz⟩ en) fun en => body.ev G lk en o := by
  unfold loopB obE
  show (match put1 lk i false ⟨d, .fz⟩ en with | some en => body.ev G lk en o | none => .bad) = _
  cases put1 lk i false ⟨d, .fz⟩ en <;> rfl
theorem loop_m (is : List Nat) (body : Ss) (xs : List D) : loopB G (.many is) lk body (.tup xs) en o = obE (putVals lk is xs en) fun en => body.ev G lk en o := by
  unfold loopB obE
  show (match putVals lk is xs en with | some en => body.ev G lk en o | none => .bad) = _
  cases putVals lk is xs en <;> rfl
theorem s_ret : (S.ret a).ev G lk en o = (a.ev G en o).out fun r o => if r.k ≠ Kd.al then .ret r o else .bad := rfl
theorem s_retN : S.retN.ev G lk en o = .ret ⟨.non, .fz⟩ o := rfl
theorem s_nev : S.nev.ev G lk en o = .bad := rfl
theorem s_brk : S.brk.ev G lk en o = .brk en o := rfl
theorem s_cnt : S.cnt.ev G lk en o = .cnt en o := rfl
theorem s_pass : S.pass.ev G lk en o = .next en o := rfl
theorem outO_some : outO (some en) o = .next en o := rfl
theorem outO_none : outO none o = .bad := rfl
end
def lkC (lk : List Nat) (i : Nat) : Bool := lk.contains i
theorem lk_nil (i : Nat) : lkC [] i = false := rfl
theorem lk_cons (a i : Nat) (r : List Nat) : lkC (a :: r) i = (i == a || lkC r i) := rfl
/-- a slot stored -/
def st1 : Env → Nat → Slot → Env
  | _ :: en, 0, s => s :: en
  | x :: en, n + 1, s => x :: st1 en n s
  | [], _, _ => []
theorem st1_0 (x : Slot) (en : Env) (s : Slot) : st1 (x :: en) 0 s = s :: en := rfl
theorem st1_s (x : Slot) (en : Env) (n : Nat) (s : Slot) : st1 (x :: en) (n + 1) s = x :: st1 en n s := rfl
theorem st1_eq : ∀ (en : Env) (n : Nat) (s : Slot), en.set n s = st1 en n s
  | [], _, _ => rfl
  | _ :: _, 0, _ => rfl
  | x :: en, n + 1, s => by
    show x :: en.set n s = x :: st1 en n s
    rw [st1_eq en n s]
theorem put_fz (lk : List Nat) (i : Nat) (d : D) (en : Env) : put1 lk i false ⟨d, .fz⟩ en = if (lkC lk i || decide (en.length ≤ i)) = true then none else some (st1 en i (.val ⟨d, .fz⟩)) := by
  rw [← st1_eq]
  rfl
theorem put_ex (lk : List Nat) (i : Nat) (d : D) (en : Env) : put1 lk i false ⟨d, .ex⟩ en = if (lkC lk i || decide (en.length ≤ i)) = true then none else some (st1 en i (.val ⟨d, .fz⟩)) := by
  rw [← st1_eq]
  rfl
theorem put_own (lk : List Nat) (i : Nat) (xs : List D) (en : Env) : put1 lk i true ⟨.lst xs, .ex⟩ en = if (lkC lk i || decide (en.length ≤ i)) = true then none else some (st1 en i (.own xs)) := by
  rw [← st1_eq]
  rfl
theorem putV_nil (lk : List Nat) (en : Env) : putVals lk [] [] en = some en := rfl
theorem putV_cons (lk : List Nat) (i : Nat) (is : List Nat) (d : D) (ds : List D) (en : Env) : putVals lk (i :: is) (d :: ds) en = (put1 lk i false ⟨d, .fz⟩ en).bind (putVals lk is ds) := rfl
theorem putA_nil (lk : List Nat) (en : Env) : putAll lk [] [] en = some en := rfl
theorem putA_cons (lk : List Nat) (t : Nat × Bool) (ts : List (Nat × Bool)) (r : R) (rs : List R) (en : Env) : putAll lk (t :: ts) (r :: rs) en = (put1 lk t.1 t.2 r en).bind (putAll lk ts rs) := rfl
/-- a def's end -/
def fin : Out → Rs R
  | .next _ o => .ok ⟨.non, .fz⟩ o
  | .ret r o => .ok r o
  | .exc c o => .exc c o
  | _ => .bad
theorem fin_next (en : Env) (o : Objs) : fin (.next en o) = .ok ⟨.non, .fz⟩ o := rfl
theorem fin_ret (r : R) (o : Objs) : fin (.ret r o) = .ok r o := rfl
theorem fin_bad : fin .bad = .bad := rfl
theorem fin_if (p : Prop) [Decidable p] (a b : Out) : fin (if p then a else b) = if p then fin a else fin b := by split <;> rfl
theorem run_eq (G : Sg) (b : Ss) (n : Nat) (ds : List R) (o : Objs) : runDef G b n ds o = if ds.length ≤ n then fin (b.ev G [] (ds.map Slot.val ++ List.replicate (n - ds.length) .none) o) else .bad := by
  unfold runDef
  split
  · cases b.ev G [] (ds.map Slot.val ++ List.replicate (n - ds.length) .none) o <;> rfl
  · rfl
theorem nal_fz : decide (Kd.fz ≠ Kd.al) = true := rfl
theorem nal_ex : decide (Kd.ex ≠ Kd.al) = true := rfl
theorem nal_fz' : (Kd.fz ≠ Kd.al) = True := by simp
theorem nal_ex' : (Kd.ex ≠ Kd.al) = True := by simp
theorem le_big {n : Nat} (h : n ≤ 1000000) : (n ≤ bigL) = True := eq_true h
/-! operators -/
theorem add_ii (i j : Int) : Op.add.ev (.int i) (.int j) = some (.int (i + j)) := rfl
theorem add_ss (i j : Txt) : Op.add.ev (.str i) (.str j) = if i.length + j.length ≤ bigL then some (.str (i ++ j)) else none := rfl
theorem add_ll (i j : List D) : Op.add.ev (.lst i) (.lst j) = if i.length + j.length ≤ bigL then some (.lst (i ++ j)) else none := rfl
theorem sub_ii (i j : Int) : Op.subI.ev (.int i) (.int j) = some (.int (i - j)) := rfl
theorem mul_ii (i j : Int) : Op.mul.ev (.int i) (.int j) = if (decide (i.natAbs < 2 ^ 600) && decide (j.natAbs < 2 ^ 600)) = true then some (.int (i * j)) else none := rfl
theorem fdiv_ii (i j : Int) : Op.fdivI.ev (.int i) (.int j) = if (decide (0 < j) && decide (j.natAbs < 2 ^ 600)) = true then some (.int (i / j)) else none := rfl
theorem mod_ii (i j : Int) : Op.modI.ev (.int i) (.int j) = if 0 < j then some (.int (i % j)) else none := rfl
theorem lt_ii (i j : Int) : Op.ltI.ev (.int i) (.int j) = some (.bl (decide (i < j))) := rfl
theorem le_ii (i j : Int) : Op.leI.ev (.int i) (.int j) = some (.bl (decide (i ≤ j))) := rfl
theorem gt_ii (i j : Int) : Op.gtI.ev (.int i) (.int j) = some (.bl (decide (j < i))) := rfl
theorem ge_ii (i j : Int) : Op.geI.ev (.int i) (.int j) = some (.bl (decide (j ≤ i))) := rfl
theorem pow_ii (i j : Int) : Op.powI.ev (.int i) (.int j) = if (decide (0 ≤ j) && decide (j ≤ 1000) && decide (i.natAbs < 2 ^ 60)) = true then some (.int (i ^ j.toNat)) else none := rfl
theorem is_n (a : D) : Op.is_.ev a .non = some (.bl a.isNon) := by cases a <;> rfl
theorem isNot_n (a : D) : Op.isNot.ev a .non = some (.bl (!a.isNon)) := by cases a <;> rfl
theorem eq_ev (a b : D) (h : ∀ xs, a ≠ .scr xs) : Op.eqD.ev a b = if (a.pl 60 && b.pl 60) = true then some (.bl (a.eqv b)) else none := by cases a <;> cases b <;> first | rfl | exact absurd rfl (h _)
theorem ne_ev (a b : D) (h : ∀ xs, a ≠ .scr xs) : Op.neD.ev a b = if (a.pl 60 && b.pl 60) = true then some (.bl (!a.eqv b)) else none := by cases a <;> cases b <;> first | rfl | exact absurd rfl (h _)
theorem eq_ss (a b : Txt) : Op.eqD.ev (.str a) (.str b) = some (.bl (a == b)) := rfl
theorem ne_ss (a b : Txt) : Op.neD.ev (.str a) (.str b) = some (.bl (!(a == b))) := rfl
theorem eq_ii (a b : Int) : Op.eqD.ev (.int a) (.int b) = some (.bl (a == b)) := rfl
theorem ne_ii (a b : Int) : Op.neD.ev (.int a) (.int b) = some (.bl (!(a == b))) := rfl
theorem eq_ns (b : Txt) : Op.eqD.ev .non (.str b) = some (.bl false) := rfl
theorem in_ss (c : Nat) (t : Txt) : Op.in_.ev (.str [c]) (.str t) = some (.bl (t.contains c)) := rfl
theorem notIn_ss (c : Nat) (t : Txt) : Op.notIn.ev (.str [c]) (.str t) = some (.bl (!t.contains c)) := rfl
theorem kd_add_i (i : Int) : Op.add.kd (.int i) = .fz := rfl
theorem kd_add_s (i : Txt) : Op.add.kd (.str i) = .fz := rfl
theorem kd_add_l (i : List D) : Op.add.kd (.lst i) = .ex := rfl
theorem kd_mul_i (i : Int) : Op.mul.kd (.int i) = .fz := rfl
theorem kd_o (p : Op) (d : D) (h : p ≠ .add) (h2 : p ≠ .mul) (h3 : p ≠ .addL) (h4 : p ≠ .repL) : p.kd d = .fz := by cases p <;> first | rfl | exact absurd rfl h | exact absurd rfl h2 | exact absurd rfl h3 | exact absurd rfl h4
theorem kd_sub (d : D) : Op.subI.kd d = .fz := rfl
theorem kd_fdiv (d : D) : Op.fdivI.kd d = .fz := rfl
theorem kd_mod (d : D) : Op.modI.kd d = .fz := rfl
theorem kd_pow (d : D) : Op.powI.kd d = .fz := rfl
theorem kd_lt (d : D) : Op.ltI.kd d = .fz := rfl
theorem kd_le (d : D) : Op.leI.kd d = .fz := rfl
theorem kd_gt (d : D) : Op.gtI.kd d = .fz := rfl
theorem kd_ge (d : D) : Op.geI.kd d = .fz := rfl
theorem kd_eq (d : D) : Op.eqD.kd d = .fz := rfl
theorem kd_ne (d : D) : Op.neD.kd d = .fz := rfl
theorem kd_is (d : D) : Op.is_.kd d = .fz := rfl
theorem kd_isn (d : D) : Op.isNot.kd d = .fz := rfl
theorem kd_in (d : D) : Op.in_.kd d = .fz := rfl
theorem kd_nin (d : D) : Op.notIn.kd d = .fz := rfl
theorem ix_l (xs : List D) (i : Int) : ixEv (.lst xs) (.int i) = (atI xs i).map fun d => ⟨d, .fz⟩ := rfl
theorem ix_t (xs : List D) (i : Int) : ixEv (.tup xs) (.int i) = (atI xs i).map fun d => ⟨d, .fz⟩ := rfl
theorem ix_s (s : Txt) (i : Int) : ixEv (.str s) (.int i) = if s.length ≤ bigL then (atI s i).map fun c => ⟨.str [c], .fz⟩ else none := rfl
theorem ix_scr (xs : List Int) (i : Int) : ixEv (.scr xs) (.int i) = (atI xs i).map fun d => ⟨.int d, .fz⟩ := rfl
theorem map_some_ {α β : Type} (a : α) (f : α → β) : (some a).map f = some (f a) := rfl
theorem map_none_ {α β : Type} (f : α → β) : (none : Option α).map f = none := rfl
theorem bindO_some {α β : Type} (a : α) (f : α → Option β) : (some a).bind f = f a := rfl
theorem bindO_none {α β : Type} (f : α → Option β) : (none : Option α).bind f = none := rfl
theorem outO_if (p : Prop) [Decidable p] (a b : Option Env) (o : Objs) : outO (if p then a else b) o = if p then outO a o else outO b o := by split <;> rfl
/-! what holds under a condition -/
theorem c_mul {i j : Int} (hi : i.natAbs < 2 ^ 600) (hj : j.natAbs < 2 ^ 600) : Op.mul.ev (.int i) (.int j) = some (.int (i * j)) := by
  rw [mul_ii, if_pos (by simp only [hi, hj, decide_true, Bool.and_self])]
theorem c_fdiv {i j : Int} (hi : 0 < j) (hj : j.natAbs < 2 ^ 600) : Op.fdivI.ev (.int i) (.int j) = some (.int (i / j)) := by
  rw [fdiv_ii, if_pos (by simp only [hi, hj, decide_true, Bool.and_self])]
theorem c_mod {i j : Int} (hi : 0 < j) : Op.modI.ev (.int i) (.int j) = some (.int (i % j)) := by
  rw [mod_ii, if_pos hi]
theorem c_pow {i j : Int} (h1 : 0 ≤ j) (h2 : j ≤ 1000) (h3 : i.natAbs < 2 ^ 60) : Op.powI.ev (.int i) (.int j) = some (.int (i ^ j.toNat)) := by
  rw [pow_ii, if_pos (by simp only [h1, h2, h3, decide_true, Bool.and_self])]
theorem lt600 {j : Int} (h : -1000000000000000000000000000000000000000000000000000000000000000000000 < j) (h2 : j < 1000000000000000000000000000000000000000000000000000000000000000000000) : (j.natAbs < 2 ^ 600) = True := by
  have : j.natAbs < 1000000000000000000000000000000000000000000000000000000000000000000000 := by omega
  exact eq_true (Nat.lt_trans this (by decide))
theorem lt60 {j : Int} (h : -1000000000000000 < j) (h2 : j < 1000000000000000) : (j.natAbs < 2 ^ 60) = True := by
  have : j.natAbs < 1000000000000000 := by omega
  exact eq_true (Nat.lt_trans this (by decide))
theorem c_adds {i j : Txt} (h : i.length + j.length ≤ bigL) : Op.add.ev (.str i) (.str j) = some (.str (i ++ j)) := by
  rw [add_ss, if_pos h]
theorem c_addl {i j : List D} (h : i.length + j.length ≤ bigL) : Op.add.ev (.lst i) (.lst j) = some (.lst (i ++ j)) := by
  rw [add_ll, if_pos h]
theorem c_ixs {s : Txt} {i : Int} (h : s.length ≤ bigL) : ixEv (.str s) (.int i) = (atI s i).map fun c => ⟨.str [c], .fz⟩ := by
  rw [ix_s, if_pos h]
end B
end

section
set_option Elab.async false
set_option linter.all false
set_option maxRecDepth 100000
set_option maxHeartbeats 2000000
/-! CD: more of the evaluator's equations; walks. (printed by cd.py) -/
namespace B
section
variable (G : Sg) (en : Env) (o : Objs) (a b c : E) (lk : List Nat)
/-- what is walked -/
def itA (sl : List Nat) (x : R) (o : Objs) : Rs (List D × List Nat) := match x.d with
  | .tup xs => .ok (xs, []) o
  | .str s => .ok (s.map fun c => .str [c], []) o
  | _ => ofO o ((itL sl x).map fun xs => (xs, sl))
theorem it_any : (It.any a).ev G en o = (a.ev G en o).bind fun x o => itA a.slot x o := rfl
theorem it_A_t (sl : List Nat) (xs : List D) (k : Kd) : itA sl ⟨.tup xs, k⟩ o = .ok (xs, []) o := rfl
theorem it_A_s (sl : List Nat) (xs : Txt) (k : Kd) : itA sl ⟨.str xs, k⟩ o = .ok (xs.map fun c => .str [c], []) o := rfl
theorem it_A_l (sl : List Nat) (xs : List D) (k : Kd) : itA sl ⟨.lst xs, k⟩ o = ofO o ((itL sl ⟨.lst xs, k⟩).map fun xs => (xs, sl)) := rfl
theorem it_L_fz (sl : List Nat) (xs : List D) : itL sl ⟨.lst xs, .fz⟩ = some xs := rfl
theorem it_L_ex (sl : List Nat) (xs : List D) : itL sl ⟨.lst xs, .ex⟩ = some xs := rfl
theorem it_L_al (i : Nat) (sl : List Nat) (xs : List D) : itL (i :: sl) ⟨.lst xs, .al⟩ = some xs := rfl
def itR1 (x : R) (o : Objs) : Rs (List D × List Nat) := match x.d with
  | .int n => if n ≤ 1000000 ∧ -1000000 ≤ n then .ok (rngD 0 1 n.toNat, []) o else .bad
  | _ => .bad
theorem it_r1 : (It.rng1 a).ev G en o = (a.ev G en o).bind fun x o => itR1 x o := rfl
theorem c_rng1 {n : Int} (k : Kd) (o : Objs) (h : n ≤ 1000000) (h2 : -1000000 ≤ n) : itR1 ⟨.int n, k⟩ o = .ok (rngD 0 1 n.toNat, []) o := by
  show (if n ≤ 1000000 ∧ -1000000 ≤ n then _ else _) = _
  rw [if_pos ⟨h, h2⟩]
def itR2 (x y : R) (o : Objs) : Rs (List D × List Nat) := match x.d, y.d with
  | .int l, .int h => if -1000000 ≤ l ∧ l ≤ 1000000 ∧ -1000000 ≤ h ∧ h ≤ 1000000 then .ok (rngD l 1 (h - l).toNat, []) o else .bad
  | _, _ => .bad
theorem it_r2 : (It.rng2 a b).ev G en o = (a.ev G en o).bind fun x o => (b.ev G en o).bind fun y o => itR2 x y o := rfl
theorem c_rng2 {l h : Int} (k k' : Kd) (o : Objs) (h1 : -1000000 ≤ l) (h2 : l ≤ 1000000) (h3 : -1000000 ≤ h) (h4 : h ≤ 1000000) : itR2 ⟨.int l, k⟩ ⟨.int h, k'⟩ o = .ok (rngD l 1 (h - l).toNat, []) o := by
  show (if -1000000 ≤ l ∧ l ≤ 1000000 ∧ -1000000 ≤ h ∧ h ≤ 1000000 then _ else _) = _
  rw [if_pos ⟨h1, h2, h3, h4⟩]
def itR3 (x y z : R) (o : Objs) : Rs (List D × List Nat) := match x.d, y.d, z.d with
  | .int l, .int h, .int c => if -1000000 ≤ l ∧ l ≤ 1000000 ∧ -1000000 ≤ h ∧ h ≤ 1000000 ∧ 0 < c ∧ c ≤ 1000 then .ok (rngD l c (rngN l h c), []) o else .bad
  | _, _, _ => .bad
theorem it_r3 : (It.rng3 a b c).ev G en o = (a.ev G en o).bind fun x o => (b.ev G en o).bind fun y o => (c.ev G en o).bind fun z o => itR3 x y z o := rfl
theorem c_rng3 {l h c : Int} (k k' k'' : Kd) (o : Objs) (h1 : -1000000 ≤ l) (h2 : l ≤ 1000000) (h3 : -1000000 ≤ h) (h4 : h ≤ 1000000) (h5 : 0 < c) (h6 : c ≤ 1000) : itR3 ⟨.int l, k⟩ ⟨.int h, k'⟩ ⟨.int c, k''⟩ o = .ok (rngD l c (rngN l h c), []) o := by
  show (if -1000000 ≤ l ∧ l ≤ 1000000 ∧ -1000000 ≤ h ∧ h ≤ 1000000 ∧ 0 < c ∧ c ≤ 1000 then _ else _) = _
  rw [if_pos ⟨h1, h2, h3, h4, h5, h6⟩]
theorem it_enum : (It.enum a).ev G en o = (a.ev G en o).bind fun x o => ofO o ((itL a.slot x).map fun xs => (enumD 0 xs, a.slot)) := rfl
theorem it_zip : (It.zip a b).ev G en o = (a.ev G en o).bind fun x o => (b.ev G en o).bind fun y o => ofO o ((itL a.slot x).bind fun xs => (itL b.slot y).map fun ys => (zipD xs ys, a.slot ++ b.slot)) := rfl
theorem it_zip3 : (It.zip3 a b c).ev G en o = (a.ev G en o).bind fun x o => (b.ev G en o).bind fun y o => (c.ev G en o).bind fun z o =>
      ofO o ((itL a.slot x).bind fun xs => (itL b.slot y).bind fun ys => (itL c.slot z).map fun zs => (zip3D xs ys zs, a.slot ++ b.slot ++ c.slot)) := rfl
def itZ (sa sb : List Nat) (x y : R) (o : Objs) : Rs (List D × List Nat) := match x.d, y.d with
  | .str xs, .str ys => .ok (zipD (xs.map fun c => .str [c]) (ys.map fun c => .str [c]), []) o
  | _, _ => ofO o ((itL sa x).bind fun xs => (itL sb y).map fun ys => (zipD xs ys, sa ++ sb))
theorem it_zipA : (It.zipA a b).ev G en o = (a.ev G en o).bind fun x o => (b.ev G en o).bind fun y o => itZ a.slot b.slot x y o := rfl
theorem it_Z_s (sa sb : List Nat) (xs ys : Txt) (k k' : Kd) : itZ sa sb ⟨.str xs, k⟩ ⟨.str ys, k'⟩ o = .ok (zipD (xs.map fun c => .str [c]) (ys.map fun c => .str [c]), []) o := rfl
theorem it_Z_l (sa sb : List Nat) (xs ys : List D) (k k' : Kd) : itZ sa sb ⟨.lst xs, k⟩ ⟨.lst ys, k'⟩ o = ofO o ((itL sa ⟨.lst xs, k⟩).bind fun xs => (itL sb ⟨.lst ys, k'⟩).map fun ys => (zipD xs ys, sa ++ sb)) := rfl
/-- a comprehension's item -/
def lcB (e : E) (tg : Tg) (c : E) (en : Env) (d : D) (o : Objs) : Rs (Option D) := match putTg [] tg d (wipeTg tg en) with
        | none => .bad
        | some en => ((optB c.isHole (c.ev G en o) o).bind fun k o => if k then (e.ev G en o).bind fun r o => if r.k ≠ .al then .ok (some r.d) o else .bad else .ok none o).noExc
theorem ev_lc (tg : Tg) (it : It) : (E.lc a tg it c).ev G en o = (it.ev G en o).bind fun x o => if (decide (x.1.length ≤ bigL) && tgFree tg en) = true then (lcGo (lcB G a tg c en) x.1 [] o).bind fun ds o => .ok ⟨.lst ds, .ex⟩ o else .bad := rfl
def frS : Option Slot → Bool
  | some .none => true
  | some (.val _) => true
  | _ => false
theorem lc_fr_n : frS (some .none) = true := rfl
theorem lc_fr_v (r : R) : frS (some (.val r)) = true := rfl
theorem lc_free (tg : Tg) : tgFree tg en = (tgIx tg).all fun i => frS (sl en i) := by
  unfold tgFree sl
  congr
theorem lc_tgIx_1 (i : Nat) : tgIx (.one i) = [i] := rfl
theorem lc_tgIx_m (i : List Nat) : tgIx (.many i) = i := rfl
def obR {α : Type} (x : Option Env) (f : Env → Rs α) : Rs α := match x with
  | some en => f en
  | none => .bad
theorem cg_obR {α : Type} (x y : Option Env) (f : Env → Rs α) (h : x = y) : obR x f = obR y f := by rw [h]
theorem cg_obE (x y : Option Env) (f : Env → Out) (h : x = y) : obE x f = obE y f := by rw [h]
theorem obE_R {α : Type} (f : Env → Rs α) : obR (some en) f = f en := rfl
def optK (h : Bool) (x : Rs R) (f : Objs → Rs (Option D)) (o : Objs) : Rs (Option D) := if h = true then f o else x.bind fun x o => x.d.cnd (f o) (.ok none o) .bad
theorem lc_optK_t (x : Rs R) (f : Objs → Rs (Option D)) : optK true x f o = f o := rfl
theorem lc_optK_f (x : Rs R) (f : Objs → Rs (Option D)) : optK false x f o = x.bind fun x o => x.d.cnd (f o) (.ok none o) .bad := rfl
theorem lc_opt (h : Bool) (x : Rs R) (f : Objs → Rs (Option D)) : ((optB h x o).bind fun k o => if k then f o else .ok none o) = optK h x f o := by
  cases h with
  | true => rfl
  | false =>
    show ((x.bind fun x o => match x.d with | .bl b => Rs.ok b o | _ => .bad).bind fun k o => if k then f o else .ok none o) = x.bind fun x o => x.d.cnd (f o) (.ok none o) .bad
    cases x with
    | ok x o =>
      obtain ⟨d, k⟩ := x
      cases d <;> try rfl
      rename_i b; cases b <;> rfl
    | _ => rfl
theorem lc_noExc_ok {α : Type} (x : α) : (Rs.ok x o).noExc = .ok x o := rfl
theorem lc_noExc_bad {α : Type} : (Rs.bad : Rs α).noExc = .bad := rfl
theorem lc_noExc_exc {α : Type} (n : Nat) : (Rs.exc n o : Rs α).noExc = .bad := rfl
theorem lcB_1 (i : Nat) (d : D) : lcB G a (.one i) c en d o = obR (put1 [] i false ⟨d, .fz⟩ (st1 en i .none)) fun en => (optK c.isHole (c.ev G en o) (fun o => (a.ev G en o).bind fun r o => if r.k ≠ .al then .ok (some r.d) o else .bad) o).noExc := by
  rw [← st1_eq]
  unfold lcB obR
  show (match put1 [] i false ⟨d, .fz⟩ (en.set i .none) with | none => Rs.bad | some en => _) = _
  cases put1 [] i false ⟨d, .fz⟩ (en.set i .none) with
  | none => rfl
  | some e => show Rs.noExc _ = Rs.noExc _; rw [← lc_opt]
theorem lcB_2 (i j : Nat) (xs : List D) : lcB G a (.many [i, j]) c en (.tup xs) o = obR (putVals [] [i, j] xs (st1 (st1 en i .none) j .none)) fun en => (optK c.isHole (c.ev G en o) (fun o => (a.ev G en o).bind fun r o => if r.k ≠ .al then .ok (some r.d) o else .bad) o).noExc := by
  rw [← st1_eq, ← st1_eq]
  unfold lcB obR
  show (match putVals [] [i, j] xs ((en.set i .none).set j .none) with | none => Rs.bad | some en => _) = _
  cases putVals [] [i, j] xs ((en.set i .none).set j .none) with
  | none => rfl
  | some e => show Rs.noExc _ = Rs.noExc _; rw [← lc_opt]
theorem lcB_3 (i j k : Nat) (xs : List D) : lcB G a (.many [i, j, k]) c en (.tup xs) o = obR (putVals [] [i, j, k] xs (st1 (st1 (st1 en i .none) j .none) k .none)) fun en => (optK c.isHole (c.ev G en o) (fun o => (a.ev G en o).bind fun r o => if r.k ≠ .al then .ok (some r.d) o else .bad) o).noExc := by
  rw [← st1_eq, ← st1_eq, ← st1_eq]
  unfold lcB obR
  show (match putVals [] [i, j, k] xs (((en.set i .none).set j .none).set k .none) with | none => Rs.bad | some en => _) = _
  cases putVals [] [i, j, k] xs (((en.set i .none).set j .none).set k .none) with
  | none => rfl
  | some e => show Rs.noExc _ = Rs.noExc _; rw [← lc_opt]
theorem lc_nil (f : D → Objs → Rs (Option D)) (acc : List D) : lcGo f [] acc o = .ok acc o := rfl
def lcNext (f : D → Objs → Rs (Option D)) (r acc : List D) (x : Option D) (o : Objs) : Rs (List D) := match x with
  | some y => lcGo f r (acc ++ [y]) o
  | none => lcGo f r acc o
theorem lc_cons (f : D → Objs → Rs (Option D)) (d : D) (r acc : List D) : lcGo f (d :: r) acc o = (f d o).bind (lcNext f r acc) := by
  show (f d o).bind _ = _
  cases f d o with
  | ok x o => cases x <;> rfl
  | _ => rfl
theorem lc_next_s (f : D → Objs → Rs (Option D)) (r acc : List D) (y : D) : lcNext f r acc (some y) o = lcGo f r (acc ++ [y]) o := rfl
theorem lc_next_n (f : D → Objs → Rs (Option D)) (r acc : List D) : lcNext f r acc none o = lcGo f r acc o := rfl
/-- a comprehension walked -/
theorem lc_walk {α : Type} {f : D → Objs → Rs (Option D)} {o : Objs} (g : α → D) (h : α → Option D) : ∀ (xs : List α) (acc : List D), (∀ x ∈ xs, f (g x) o = .ok (h x) o) → lcGo f (xs.map g) acc o = .ok (acc ++ xs.filterMap h) o
  | [], acc, _ => by simp [lcGo]
  | x :: xs, acc, H => by
    rw [List.map_cons, lc_cons, H x (by simp), bind_ok]
    have IH := fun acc => lc_walk g h xs acc fun y hy => H y (by simp [hy])
    cases e : h x with
    | none => rw [lc_next_n, IH, List.filterMap_cons_none e]
    | some y => rw [lc_next_s, IH, List.filterMap_cons_some e]; simp
theorem lc_walk1 {α : Type} {f : D → Objs → Rs (Option D)} {o : Objs} (g : α → D) (h : α → D) (xs : List α) (H : ∀ x ∈ xs, f (g x) o = .ok (some (h x)) o) : lcGo f (xs.map g) [] o = .ok (xs.map h) o := by
  rw [lc_walk g (fun x => some (h x)) xs [] H, List.nil_append]
  show Rs.ok (List.filterMap (some ∘ h) xs) o = _
  rw [List.filterMap_eq_map]
/-! walks of loops -/
/-- a body's end, inside a loop -/
def Step (J : Env → Objs → Prop) (Z : Out → Prop) : Out → Prop
  | .next en o => J en o
  | .cnt en o => J en o
  | .brk en o => Z (.next en o)
  | .ret r o => Z (.ret r o)
  | .exc c o => Z (.exc c o)
  | .bad => Z .bad
theorem for_walk {α : Type} {f : D → Env → Objs → Out} (g : α → D) (I : List α → Env → Objs → Prop) (Z : Out → Prop)
    (h : ∀ x r en o, I (x :: r) en o → Step (I r) Z (f (g x) en o)) (h0 : ∀ en o, I [] en o → Z (.next en o)) : ∀ (xs : List α) (en : Env) (o : Objs), I xs en o → Z (forGo f (xs.map g) en o)
  | [], en, o, hI => h0 en o hI
  | x :: r, en, o, hI => by
    have hs := h x r en o hI
    show Z (match f (g x) en o with
    | .next en o => forGo f (r.map g) en o
    | .cnt en o => forGo f (r.map g) en o
    | .brk en o => .next en o
    | x => x)
    cases e : f (g x) en o <;> (rw [e] at hs)
    · exact for_walk g I Z h h0 r _ _ hs
    · exact hs
    · exact hs
    · exact for_walk g I Z h h0 r _ _ hs
    · exact hs
    · exact hs
/-- a loop over D itself -/
theorem for_walkD {f : D → Env → Objs → Out} (I : List D → Env → Objs → Prop) (Z : Out → Prop)
    (h : ∀ x r en o, I (x :: r) en o → Step (I r) Z (f x en o)) (h0 : ∀ en o, I [] en o → Z (.next en o)) (xs : List D) (en : Env) (o : Objs) (hI : I xs en o) : Z (forGo f xs en o) := by
  have := for_walk (f := f) (α := D) id I Z h h0 xs en o hI
  rwa [List.map_id] at this
theorem whl_walk {c : Env → Objs → Rs R} {f : Env → Objs → Out} (I : Nat → Env → Objs → Prop) (Z : Out → Prop)
    (h : ∀ n en o, I n en o → ∃ b k, c en o = .ok ⟨.bl b, k⟩ o ∧ if b = true then Step (fun en o => ∃ m, m < n ∧ I m en o) Z (f en o) else Z (.next en o)) : ∀ fuel n en o, n < fuel → I n en o → Z (whlGo c f fuel en o)
  | 0, n, en, o, hf, _ => absurd hf (Nat.not_lt_zero _)
  | fuel + 1, n, en, o, hf, hI => by
    obtain ⟨b, k, e, hs⟩ := h n en o hI
    show Z ((c en o).out fun x o => match x.d with
    | .bl false => .next en o
    | .bl true => match f en o with
      | .next en o => whlGo c f fuel en o
      | .cnt en o => whlGo c f fuel en o
      | .brk en o => .next en o
      | x => x
    | _ => .bad)
    rw [e, out_ok]
    cases b with
    | false => exact hs
    | true =>
      show Z (match f en o with
      | .next en o => whlGo c f fuel en o
      | .cnt en o => whlGo c f fuel en o
      | .brk en o => .next en o
      | x => x)
      have hs : Step (fun en o => ∃ m, m < n ∧ I m en o) Z (f en o) := hs
      cases e : f en o <;> (rw [e] at hs)
      · obtain ⟨m, hm, hI⟩ := hs
        exact whl_walk I Z h fuel m _ _ (by omega) hI
      · exact hs
      · exact hs
      · obtain ⟨m, hm, hI⟩ := hs
        exact whl_walk I Z h fuel m _ _ (by omega) hI
      · exact hs
      · exact hs
/-- loops over given things, one after the other -/
def forN (f : D → Env → Objs → Out) (r : List D) : Out → Out
  | .next en o => forGo f r en o
  | .cnt en o => forGo f r en o
  | .brk en o => .next en o
  | x => x
theorem for_nil (f : D → Env → Objs → Out) : forGo f [] en o = .next en o := rfl
theorem for_cons (f : D → Env → Objs → Out) (d : D) (r : List D) : forGo f (d :: r) en o = forN f r (f d en o) := by
  show (match f d en o with
    | .next en o => forGo f r en o
    | .cnt en o => forGo f r en o
    | .brk en o => .next en o
    | x => x) = _
  cases f d en o <;> rfl
theorem cg_forN (f : D → Env → Objs → Out) (r : List D) (x y : Out) (h : x = y) : forN f r x = forN f r y := by rw [h]
theorem forN_next (f : D → Env → Objs → Out) (r : List D) : forN f r (.next en o) = forGo f r en o := rfl
theorem forN_cnt (f : D → Env → Objs → Out) (r : List D) : forN f r (.cnt en o) = forGo f r en o := rfl
theorem forN_brk (f : D → Env → Objs → Out) (r : List D) : forN f r (.brk en o) = .next en o := rfl
theorem forN_ret (f : D → Env → Objs → Out) (r : List D) (x : R) : forN f r (.ret x o) = .ret x o := rfl
theorem forN_if (p : Prop) [Decidable p] (f : D → Env → Objs → Out) (r : List D) (x y : Out) : forN f r (if p then x else y) = if p then forN f r x else forN f r y := by split <;> rfl
/-! own lists -/
def isO : Option Slot → Bool
  | some (.own _) => true
  | _ => false
theorem isO_own (i : Nat) : isOwn i en = isO (sl en i) := by
  unfold isOwn sl
  cases en[i]? with
  | none => rfl
  | some s => cases s <;> rfl
theorem isO_y (xs : List D) : isO (some (.own xs)) = true := rfl
def ooS (en : Env) (i : Nat) (f : List D → Option (List D)) : Option Slot → Option Env
  | some (.own xs) => (f xs).bind fun ys => if ys.length ≤ bigL then some (st1 en i (.own ys)) else none
  | _ => none
theorem onO_eq (i : Nat) (f : List D → Option (List D)) : onOwn lk i en f = if lkC lk i = true then none else ooS en i f (sl en i) := by
  unfold onOwn sl lkC
  split
  · rfl
  · cases en[i]? with
    | none => rfl
    | some s => cases s <;> first | rfl | (show Option.bind _ _ = Option.bind _ _; simp only [st1_eq])
theorem onO_s (i : Nat) (f : List D → Option (List D)) (xs : List D) : ooS en i f (some (.own xs)) = (f xs).bind fun ys => if ys.length ≤ bigL then some (st1 en i (.own ys)) else none := rfl
end
/-! built-in functions, methods -/
theorem bi_len_l (xs : List D) : Bi.len.ev [.lst xs] = some ⟨.int xs.length, .fz⟩ := rfl
theorem bi_len_scr (xs : List Int) : Bi.len.ev [.scr xs] = some ⟨.int xs.length, .fz⟩ := rfl
theorem bi_len_t (xs : List D) : Bi.len.ev [.tup xs] = some ⟨.int xs.length, .fz⟩ := rfl
theorem c_len {xs : Txt} (h : xs.length ≤ bigL) : Bi.len.ev [.str xs] = some ⟨.int xs.length, .fz⟩ := if_pos h
theorem bi_abs (i : Int) : Bi.abs.ev [.int i] = some ⟨.int (if i < 0 then -i else i), .fz⟩ := rfl
theorem bi_max (i j : Int) : Bi.max.ev [.int i, .int j] = some ⟨.int (if i < j then j else i), .fz⟩ := rfl
theorem bi_min (i j : Int) : Bi.min.ev [.int i, .int j] = some ⟨.int (if j < i then j else i), .fz⟩ := rfl
theorem bi_all (xs : List D) : Bi.all.ev [.lst xs] = (bls xs).map fun b => ⟨.bl (b.all id), .fz⟩ := rfl
theorem bi_any (xs : List D) : Bi.any.ev [.lst xs] = (bls xs).map fun b => ⟨.bl (b.any id), .fz⟩ := rfl
theorem bi_bls {α : Type} (p : α → Bool) : ∀ xs : List α, bls (xs.map fun x => D.bl (p x)) = some (xs.map p)
  | [] => rfl
  | x :: xs => by
    show (bls (xs.map fun x => D.bl (p x))).map _ = _
    rw [bi_bls p xs]; rfl
theorem c_str {i : Int} (h : i.natAbs < 2 ^ 1000) : Bi.str.ev [.int i] = some ⟨.str (strI i), .fz⟩ := if_pos h
theorem lt1000 {j : Int} (h : -1000000000000000000000000000000000000000000000000000000000000000000000 < j) (h2 : j < 1000000000000000000000000000000000000000000000000000000000000000000000) : (j.natAbs < 2 ^ 1000) = True := by
  have : j.natAbs < 1000000000000000000000000000000000000000000000000000000000000000000000 := by omega
  exact eq_true (Nat.lt_trans this (by decide))
theorem c_int {t : Txt} (h : t.length ≤ 640) (h2 : t ≠ []) (h3 : allFigs t = true) : Bi.int.ev [.str t] = some ⟨.int (numT t), .fz⟩ := by
  show (if (decide (t.length ≤ 640) && decide (t ≠ []) && allFigs t) = true then _ else _) = _
  rw [if_pos (by simp [h, h2, h3])]
theorem bi_list (xs : List D) : Bi.list.ev [.lst xs] = some ⟨.lst xs, .ex⟩ := rfl
theorem bi_tuple (x : D) (xs : List D) : Bi.tuple.ev [.lst (x :: xs)] = some ⟨.tup (x :: xs), .fz⟩ := rfl
theorem c_starts {t u : Txt} (h : t.length ≤ bigL) (h2 : u.length ≤ bigL) : Mt.starts.ev (.str t) [.str u] = some ⟨.bl (u.isPrefixOf t), .fz⟩ := by
  show (if (decide (t.length ≤ bigL) && decide (u.length ≤ bigL)) = true then _ else _) = _
  rw [if_pos (by simp [h, h2])]
theorem c_indexS {t : Txt} {c : Nat} (h : t.contains c = true) (h2 : t.length ≤ bigL) : Mt.indexS.ev (.str t) [.str [c]] = some ⟨.int (posOf c t), .fz⟩ := by
  show (if (t.contains c && decide (t.length ≤ bigL)) = true then _ else _) = _
  rw [if_pos (by simp only [h, h2, decide_true, Bool.and_self])]
theorem c_join {t : Txt} {s : List Txt} {xs : List D} (h : txts xs = some s) (h2 : (s.map List.length).sum + s.length * t.length ≤ bigL) : Mt.join.ev (.str t) [.lst xs] = some ⟨.str (joinT t s), .fz⟩ := by
  show (txts xs).bind _ = _
  rw [h]
  exact if_pos h2
theorem bi_txts {α : Type} (p : α → Txt) : ∀ xs : List α, txts (xs.map fun x => D.str (p x)) = some (xs.map p)
  | [] => rfl
  | x :: xs => by
    show (txts (xs.map fun x => D.str (p x))).map _ = _
    rw [bi_txts p xs]; rfl
theorem c_sls {s : Txt} (l h : Option Int) (hs : s.length ≤ bigL) : slEv (.str s) l h = some ⟨.str (cut s l h), .fz⟩ := if_pos hs
theorem ix_sl_l (xs : List D) (l h : Option Int) : slEv (.lst xs) l h = some ⟨.lst (cut xs l h), .ex⟩ := rfl
theorem ix_sl_scr (xs : List Int) (l h : Option Int) : slEv (.scr xs) l h = some ⟨.lst ((cut xs l h).map D.int), .ex⟩ := rfl
theorem ix_d (kvs : List (DKey × Sc)) (s : Txt) : ixEv (.dct kvs) (.str s) = (dget kvs (.inr s)).map fun v => ⟨v.d, .fz⟩ := rfl
theorem ev_dlit (G : Sg) (en : Env) (o : Objs) (kvs : List (Txt × Int)) : (E.dlit kvs).ev G en o = .ok ⟨.dct (dmerge [] (kvs.map fun p => (.inr p.1, .int p.2))), .ex⟩ o := rfl
theorem put_ownd (lk : List Nat) (i : Nat) (xs : List (DKey × Sc)) (en : Env) : put1 lk i true ⟨.dct xs, .ex⟩ en = if (lkC lk i || decide (en.length ≤ i)) = true then none else some (st1 en i (.ownd xs)) := by
  rw [← st1_eq]
  rfl
theorem kd_mul_s (i : Txt) : Op.mul.kd (.str i) = .fz := rfl
theorem kd_mul_l (i : List D) : Op.mul.kd (.lst i) = .ex := rfl
theorem kd_mul_t (i : List D) : Op.mul.kd (.tup i) = .fz := rfl
theorem kd_inQ (d : D) : Op.inQ.kd d = .fz := rfl
theorem kd_notInQ (d : D) : Op.notInQ.kd d = .fz := rfl
theorem kd_addS (d : D) : Op.addS.kd d = .fz := rfl
theorem kd_addL (d : D) : Op.addL.kd d = .ex := rfl
theorem isNon_n : D.non.isNon = true := rfl

theorem isN_bl (b : Bool) : D.isNon (.bl b) = false := rfl
theorem isN_int (b : Int) : D.isNon (.int b) = false := rfl
theorem isN_str (b : Txt) : D.isNon (.str b) = false := rfl
theorem isN_lst (b : List D) : D.isNon (.lst b) = false := rfl
theorem isN_tup (b : List D) : D.isNon (.tup b) = false := rfl
theorem ty_int_n (f : Nat → Nat → Bool)  : Ty.int.has f (.non) = some false := rfl
theorem ty_int_b (f : Nat → Nat → Bool) (b : Bool) : Ty.int.has f (.bl b) = some true := rfl
theorem ty_int_i (f : Nat → Nat → Bool) (b : Int) : Ty.int.has f (.int b) = some true := rfl
theorem ty_int_s (f : Nat → Nat → Bool) (b : Txt) : Ty.int.has f (.str b) = some false := rfl
theorem ty_int_l (f : Nat → Nat → Bool) (b : List D) : Ty.int.has f (.lst b) = some false := rfl
theorem ty_int_t (f : Nat → Nat → Bool) (b : List D) : Ty.int.has f (.tup b) = some false := rfl
theorem ty_int_scr (f : Nat → Nat → Bool) (b : List Int) : Ty.int.has f (.scr b) = some false := rfl
theorem ty_int_d (f : Nat → Nat → Bool) (b : List (DKey × Sc)) : Ty.int.has f (.dct b) = some false := rfl
theorem ty_str_n (f : Nat → Nat → Bool)  : Ty.str.has f (.non) = some false := rfl
theorem ty_str_b (f : Nat → Nat → Bool) (b : Bool) : Ty.str.has f (.bl b) = some false := rfl
theorem ty_str_i (f : Nat → Nat → Bool) (b : Int) : Ty.str.has f (.int b) = some false := rfl
theorem ty_str_s (f : Nat → Nat → Bool) (b : Txt) : Ty.str.has f (.str b) = some true := rfl
theorem ty_str_l (f : Nat → Nat → Bool) (b : List D) : Ty.str.has f (.lst b) = some false := rfl
theorem ty_str_t (f : Nat → Nat → Bool) (b : List D) : Ty.str.has f (.tup b) = some false := rfl
theorem ty_str_scr (f : Nat → Nat → Bool) (b : List Int) : Ty.str.has f (.scr b) = some false := rfl
theorem ty_str_d (f : Nat → Nat → Bool) (b : List (DKey × Sc)) : Ty.str.has f (.dct b) = some false := rfl
theorem ty_bool_n (f : Nat → Nat → Bool)  : Ty.bool.has f (.non) = some false := rfl
theorem ty_bool_b (f : Nat → Nat → Bool) (b : Bool) : Ty.bool.has f (.bl b) = some true := rfl
theorem ty_bool_i (f : Nat → Nat → Bool) (b : Int) : Ty.bool.has f (.int b) = some false := rfl
theorem ty_bool_s (f : Nat → Nat → Bool) (b : Txt) : Ty.bool.has f (.str b) = some false := rfl
theorem ty_bool_l (f : Nat → Nat → Bool) (b : List D) : Ty.bool.has f (.lst b) = some false := rfl
theorem ty_bool_t (f : Nat → Nat → Bool) (b : List D) : Ty.bool.has f (.tup b) = some false := rfl
theorem ty_bool_scr (f : Nat → Nat → Bool) (b : List Int) : Ty.bool.has f (.scr b) = some false := rfl
theorem ty_bool_d (f : Nat → Nat → Bool) (b : List (DKey × Sc)) : Ty.bool.has f (.dct b) = some false := rfl
theorem ty_list_n (f : Nat → Nat → Bool)  : Ty.list.has f (.non) = some false := rfl
theorem ty_list_b (f : Nat → Nat → Bool) (b : Bool) : Ty.list.has f (.bl b) = some false := rfl
theorem ty_list_i (f : Nat → Nat → Bool) (b : Int) : Ty.list.has f (.int b) = some false := rfl
theorem ty_list_s (f : Nat → Nat → Bool) (b : Txt) : Ty.list.has f (.str b) = some false := rfl
theorem ty_list_l (f : Nat → Nat → Bool) (b : List D) : Ty.list.has f (.lst b) = some true := rfl
theorem ty_list_t (f : Nat → Nat → Bool) (b : List D) : Ty.list.has f (.tup b) = some false := rfl
theorem ty_list_scr (f : Nat → Nat → Bool) (b : List Int) : Ty.list.has f (.scr b) = some true := rfl
theorem ty_list_d (f : Nat → Nat → Bool) (b : List (DKey × Sc)) : Ty.list.has f (.dct b) = some false := rfl
theorem ty_tuple_n (f : Nat → Nat → Bool)  : Ty.tuple.has f (.non) = some false := rfl
theorem ty_tuple_b (f : Nat → Nat → Bool) (b : Bool) : Ty.tuple.has f (.bl b) = some false := rfl
theorem ty_tuple_i (f : Nat → Nat → Bool) (b : Int) : Ty.tuple.has f (.int b) = some false := rfl
theorem ty_tuple_s (f : Nat → Nat → Bool) (b : Txt) : Ty.tuple.has f (.str b) = some false := rfl
theorem ty_tuple_l (f : Nat → Nat → Bool) (b : List D) : Ty.tuple.has f (.lst b) = some false := rfl
theorem ty_tuple_t (f : Nat → Nat → Bool) (b : List D) : Ty.tuple.has f (.tup b) = some true := rfl
theorem ty_tuple_scr (f : Nat → Nat → Bool) (b : List Int) : Ty.tuple.has f (.scr b) = some false := rfl
theorem ty_tuple_d (f : Nat → Nat → Bool) (b : List (DKey × Sc)) : Ty.tuple.has f (.dct b) = some false := rfl
theorem mtr_split (b : Txt) : Mt.split.rcv (.str b) = true := rfl
theorem mtr_join (b : Txt) : Mt.join.rcv (.str b) = true := rfl
theorem mtr_starts (b : Txt) : Mt.starts.rcv (.str b) = true := rfl
theorem mtr_lstrip (b : Txt) : Mt.lstrip.rcv (.str b) = true := rfl
theorem mtr_indexS (b : Txt) : Mt.indexS.rcv (.str b) = true := rfl
theorem mtr_indexL (b : List D) : Mt.indexL.rcv (.lst b) = true := rfl
theorem mtr_count (b : List D) : Mt.count.rcv (.lst b) = true := rfl
theorem mtr_get1 (b : List (DKey × Sc)) : Mt.get1.rcv (.dct b) = true := rfl
theorem mtr_get2 (b : List (DKey × Sc)) : Mt.get2.rcv (.dct b) = true := rfl
theorem eq_nn_   : Op.eqD.ev  .non  .non = some (.bl true) := rfl
theorem ne_nn_   : Op.neD.ev  .non  .non = some (.bl (!true)) := rfl
theorem eq_nb_  (b : Bool) : Op.eqD.ev  .non (.bl b) = some (.bl false) := rfl
theorem ne_nb_  (b : Bool) : Op.neD.ev  .non (.bl b) = some (.bl (!false)) := rfl
theorem eq_ni_  (b : Int) : Op.eqD.ev  .non (.int b) = some (.bl false) := rfl
theorem ne_ni_  (b : Int) : Op.neD.ev  .non (.int b) = some (.bl (!false)) := rfl
theorem eq_bn_ (a : Bool)  : Op.eqD.ev (.bl a)  .non = some (.bl false) := rfl
theorem ne_bn_ (a : Bool)  : Op.neD.ev (.bl a)  .non = some (.bl (!false)) := rfl
theorem eq_bb_ (a : Bool) (b : Bool) : Op.eqD.ev (.bl a) (.bl b) = some (.bl (a == b)) := rfl
theorem ne_bb_ (a : Bool) (b : Bool) : Op.neD.ev (.bl a) (.bl b) = some (.bl (!(a == b))) := rfl
theorem eq_bi_ (a : Bool) (b : Int) : Op.eqD.ev (.bl a) (.int b) = some (.bl ((if a then 1 else 0) == b)) := rfl
theorem ne_bi_ (a : Bool) (b : Int) : Op.neD.ev (.bl a) (.int b) = some (.bl (!((if a then 1 else 0) == b))) := rfl
theorem eq_bs_ (a : Bool) (b : Txt) : Op.eqD.ev (.bl a) (.str b) = some (.bl false) := rfl
theorem ne_bs_ (a : Bool) (b : Txt) : Op.neD.ev (.bl a) (.str b) = some (.bl (!false)) := rfl
theorem eq_in_ (a : Int)  : Op.eqD.ev (.int a)  .non = some (.bl false) := rfl
theorem ne_in_ (a : Int)  : Op.neD.ev (.int a)  .non = some (.bl (!false)) := rfl
theorem eq_ib_ (a : Int) (b : Bool) : Op.eqD.ev (.int a) (.bl b) = some (.bl (a == (if b then 1 else 0))) := rfl
theorem ne_ib_ (a : Int) (b : Bool) : Op.neD.ev (.int a) (.bl b) = some (.bl (!(a == (if b then 1 else 0)))) := rfl
theorem eq_is_ (a : Int) (b : Txt) : Op.eqD.ev (.int a) (.str b) = some (.bl false) := rfl
theorem ne_is_ (a : Int) (b : Txt) : Op.neD.ev (.int a) (.str b) = some (.bl (!false)) := rfl
theorem eq_sn_ (a : Txt)  : Op.eqD.ev (.str a)  .non = some (.bl false) := rfl
theorem ne_sn_ (a : Txt)  : Op.neD.ev (.str a)  .non = some (.bl (!false)) := rfl
theorem eq_sb_ (a : Txt) (b : Bool) : Op.eqD.ev (.str a) (.bl b) = some (.bl false) := rfl
theorem ne_sb_ (a : Txt) (b : Bool) : Op.neD.ev (.str a) (.bl b) = some (.bl (!false)) := rfl
theorem eq_si_ (a : Txt) (b : Int) : Op.eqD.ev (.str a) (.int b) = some (.bl false) := rfl
theorem ne_si_ (a : Txt) (b : Int) : Op.neD.ev (.str a) (.int b) = some (.bl (!false)) := rfl
theorem ne_ns_ (b : Txt) : Op.neD.ev .non (.str b) = some (.bl (!false)) := rfl
theorem in_q (x : D) (xs : List D) (h : (x.isSc && xs.all D.isSc) = true) : Op.inQ.ev x (.lst xs) = some (.bl (xs.any fun y => y.eqv x)) := by
  cases x <;> exact if_pos h
theorem in_tt (b : Txt) (xs : List D) : Op.in_.ev (.str b) (.tup xs) = if (D.isSc (.str b) && xs.all D.isSc) = true then some (.bl (xs.any fun y => y.eqv (.str b))) else none := rfl
theorem in_lt (b : Txt) (xs : List D) : Op.in_.ev (.str b) (.lst xs) = if (D.isSc (.str b) && xs.all D.isSc) = true then some (.bl (xs.any fun y => y.eqv (.str b))) else none := rfl
theorem notIn_tt (b : Txt) (xs : List D) : Op.notIn.ev (.str b) (.tup xs) = if (D.isSc (.str b) && xs.all D.isSc) = true then some (.bl (!xs.any fun y => y.eqv (.str b))) else none := rfl
theorem notIn_lt (b : Txt) (xs : List D) : Op.notIn.ev (.str b) (.lst xs) = if (D.isSc (.str b) && xs.all D.isSc) = true then some (.bl (!xs.any fun y => y.eqv (.str b))) else none := rfl
end B
end

section
set_option Elab.async false
set_option linter.all false
set_option maxRecDepth 100000
/-! the IR of all defs of all laws, each once -/
namespace B
def b_is_between : Ss :=
    (.cons (.ret (.and (.isi (.var 0) .int) (.and (.not (.isi (.var 0) .bool)) (.one (.chain .leI .leI (.var 1) (.var 0) (.var 2))))))
    .nil)
def b_numeral_of : Ss :=
    (.cons (.ife (.op .eqD (.var 1) (.str [102, 105, 103, 117, 114, 101, 115]))
    (.cons (.ret (.bi .str (.cons (.var 0) .nil)))
    .nil)
    .nil)
    (.cons (.set 2 (.str []))
    (.cons (.ife (.op .eqD (.var 1) (.str [108, 101, 116, 116, 101, 114, 115]))
    (.cons (.whl 100000 (.op .gtI (.var 0) (.int 0))
    (.cons (.set 2 (.op .add (.ix (.glb 2) (.op .modI (.op .subI (.var 0) (.int 1)) (.int 26))) (.var 2)))
    (.cons (.set 0 (.op .fdivI (.op .subI (.var 0) (.int 1)) (.int 26)))
    .nil)))
    (.cons (.ret (.var 2))
    .nil))
    .nil)
    (.cons (.for (.many [3, 4]) (.any (.glb 3))
    (.cons (.whl 100000 (.op .geI (.var 0) (.var 3))
    (.cons (.par [(2, false), (0, false)] (.cons (.op .add (.var 2) (.var 4)) (.cons (.op .subI (.var 0) (.var 3)) .nil)))
    .nil))
    .nil))
    (.cons (.ret (.var 2))
    .nil)))))
def b_value_of : Ss :=
    (.cons (.set 2 (.int 0))
    (.cons (.ife (.op .eqD (.var 1) (.str [102, 105, 103, 117, 114, 101, 115]))
    (.cons (.ret (.ife (.and (.op .neD (.var 0) (.str [])) (.one (.bi .all (.cons (.lc (.op .in_ (.var 3) (.str [48, 49, 50, 51, 52, 53, 54, 55, 56, 57])) (.one 3) (.any (.var 0)) .hole) .nil)))) (.bi .int (.cons (.var 0) .nil)) (.int 0)))
    .nil)
    .nil)
    (.cons (.ife (.op .eqD (.var 1) (.str [108, 101, 116, 116, 101, 114, 115]))
    (.cons (.for (.one 3) (.any (.var 0))
    (.cons (.ife (.op .notIn (.var 3) (.glb 2))
    (.cons (.ret (.int 0))
    .nil)
    .nil)
    (.cons (.set 2 (.op .add (.op .add (.op .mul (.int 26) (.var 2)) (.mt .indexS (.glb 2) (.cons (.var 3) .nil))) (.int 1)))
    .nil)))
    (.cons (.ret (.var 2))
    .nil))
    .nil)
    (.cons (.for (.many [4, 5]) (.any (.glb 3))
    (.cons (.whl 100000 (.mt .starts (.var 0) (.cons (.var 5) .nil))
    (.cons (.par [(2, false), (0, false)] (.cons (.op .add (.var 2) (.var 4)) (.cons (.sl (.var 0) (.bi .len (.cons (.var 5) .nil)) .hole) .nil)))
    .nil))
    .nil))
    (.cons (.ret (.ife (.op .eqD (.var 0) (.str [])) (.var 2) (.int 0)))
    .nil)))))
def b_number_from : Ss :=
    (.cons (.ife (.op .gtI (.bi .len (.cons (.var 0) .nil)) (.int 20))
    (.cons (.ret .non)
    .nil)
    .nil)
    (.cons (.set 2 (.call 2 (.cons (.var 0) (.cons (.var 1) .nil))))
    (.cons (.ret (.ife (.and (.chain .leI .leI (.int 1) (.var 2) (.glb 1)) (.one (.op .eqD (.call 1 (.cons (.var 2) (.cons (.var 1) .nil))) (.var 0)))) (.var 2) .non))
    .nil)))
def b_check_kind : Ss :=
    (.cons (.ife (.or (.not (.isi (.var 0) .str)) (.one (.op .notIn (.var 0) (.glb 0))))
    (.cons .nev
    .nil)
    .nil)
    .nil)
def b_numeral : Ss :=
    (.cons (.ife (.not (.call 0 (.cons (.var 0) (.cons (.int 1) (.cons (.glb 1) .nil)))))
    (.cons .nev
    .nil)
    .nil)
    (.cons (.drop (.call 4 (.cons (.var 1) .nil)))
    (.cons (.ret (.call 1 (.cons (.var 0) (.cons (.var 1) .nil))))
    .nil)))
def b_number_of : Ss :=
    (.cons (.ife (.not (.isi (.var 0) .str))
    (.cons .nev
    .nil)
    .nil)
    (.cons (.drop (.call 4 (.cons (.var 1) .nil)))
    (.cons (.ret (.call 3 (.cons (.var 0) (.cons (.var 1) .nil))))
    .nil)))
def b__law_draw : Ss :=
    (.cons (.set 3 (.tup (.cons (.int 1000003) (.cons (.int 1000033) (.cons (.int 1000037) (.cons (.int 1000039) (.cons (.int 1000081) (.cons (.int 1000099) (.cons (.int 1000117) (.cons (.int 1000121) (.cons (.int 1000133) (.cons (.int 1000151) (.cons (.int 1000159) (.cons (.int 1000171) (.cons (.int 1000183) (.cons (.int 1000187) (.cons (.int 1000193) (.cons (.int 1000199) .nil))))))))))))))))))
    (.cons (.ret (.op .modI (.op .modI (.op .add (.op .mul (.var 0) (.int 48271)) (.op .mul (.var 1) (.int 69621))) (.ix (.var 3) (.op .modI (.var 1) (.int 16)))) (.var 2)))
    .nil))
def b__law_number : Ss :=
    (.cons (.ife (.op .geI (.var 0) (.op .powI (.int 10) (.int 18)))
    (.cons (.set 3 (.ix (.tup (.cons (.int 1) (.cons (.int 7) (.cons (.int 49) (.cons (.int 343) (.cons (.int 2401) .nil)))))) (.op .modI (.var 1) (.int 5))))
    (.cons (.ret (.op .fdivI (.op .modI (.op .subI (.var 0) (.op .powI (.int 10) (.int 18))) (.op .mul (.var 3) (.var 2))) (.var 3)))
    .nil))
    .nil)
    (.cons (.ife (.op .ltI (.var 0) (.neg (.op .powI (.int 10) (.int 18))))
    (.cons (.set 0 (.op .modI (.var 0) (.int 1000811284336359577647248616306026718125307353262274591)))
    .nil)
    .nil)
    (.cons (.ret (.op .modI (.call 7 (.cons (.op .mul (.op .add (.var 0) (.op .mul (.int 977) (.var 1))) (.op .add (.op .add (.var 0) (.op .mul (.int 31) (.var 1))) (.int 5))) (.cons (.op .add (.op .modI (.var 1) (.int 9)) (.int 1)) (.cons (.int 999983) .nil)))) (.var 2)))
    .nil)))
def b__law_pow : Ss :=
    (.cons (.set 1 (.int 1))
    (.cons (.for (.one 2) (.rng1 (.var 0))
    (.cons (.set 1 (.op .mul (.var 1) (.int 26)))
    .nil))
    (.cons (.ret (.var 1))
    .nil)))
def b__law_numeral : Ss :=
    (.cons (.ife (.op .eqD (.var 1) (.str [102, 105, 103, 117, 114, 101, 115]))
    (.cons (.ret (.bi .str (.cons (.var 0) .nil)))
    .nil)
    .nil)
    (.cons (.ife (.op .eqD (.var 1) (.str [108, 101, 116, 116, 101, 114, 115]))
    (.cons (.par [(10, false), (11, false), (3, false)] (.cons (.int 1) (.cons (.op .subI (.var 0) (.int 1)) (.cons (.str []) .nil))))
    (.cons (.whl 100000 (.op .geI (.var 11) (.op .mul (.int 26) (.call 9 (.cons (.op .subI (.var 10) (.int 1)) .nil))))
    (.cons (.par [(11, false), (10, false)] (.cons (.op .subI (.var 11) (.op .mul (.int 26) (.call 9 (.cons (.op .subI (.var 10) (.int 1)) .nil)))) (.cons (.op .add (.var 10) (.int 1)) .nil)))
    .nil))
    (.cons (.for (.one 2) (.rng1 (.var 10))
    (.cons (.par [(3, false), (11, false)] (.cons (.op .add (.ix (.str [97, 98, 99, 100, 101, 102, 103, 104, 105, 106, 107, 108, 109, 110, 111, 112, 113, 114, 115, 116, 117, 118, 119, 120, 121, 122]) (.op .modI (.var 11) (.int 26))) (.var 3)) (.cons (.op .fdivI (.var 11) (.int 26)) .nil)))
    .nil))
    (.cons (.ret (.var 3))
    .nil))))
    .nil)
    (.cons (.par [(3, false), (4, false)] (.cons (.str []) (.cons (.tup (.cons (.str []) (.cons (.str [49]) (.cons (.str [49, 49]) (.cons (.str [49, 49, 49]) (.cons (.str [49, 53]) (.cons (.str [53]) (.cons (.str [53, 49]) (.cons (.str [53, 49, 49]) (.cons (.str [53, 49, 49, 49]) (.cons (.str [49, 116]) .nil))))))))))) .nil)))
    (.cons (.for (.many [5, 6, 7, 8]) (.any (.lst (.cons (.tup (.cons (.int 1000) (.cons (.str [109]) (.cons (.str []) (.cons (.str []) .nil))))) (.cons (.tup (.cons (.int 100) (.cons (.str [99]) (.cons (.str [100]) (.cons (.str [109]) .nil))))) (.cons (.tup (.cons (.int 10) (.cons (.str [120]) (.cons (.str [108]) (.cons (.str [99]) .nil))))) (.cons (.tup (.cons (.int 1) (.cons (.str [105]) (.cons (.str [118]) (.cons (.str [120]) .nil))))) .nil))))))
    (.cons (.for (.one 9) (.any (.ix (.var 4) (.op .modI (.op .fdivI (.var 0) (.var 5)) (.int 10))))
    (.cons (.set 3 (.op .add (.var 3) (.ife (.op .eqD (.var 9) (.str [49])) (.var 6) (.ife (.op .eqD (.var 9) (.str [53])) (.var 7) (.var 8)))))
    .nil))
    .nil))
    (.cons (.ret (.var 3))
    .nil)))))
def b__law_value : Ss :=
    (.cons (.set 2 (.int 0))
    (.cons (.ife (.op .eqD (.var 1) (.str [102, 105, 103, 117, 114, 101, 115]))
    (.cons (.ife (.or (.op .eqD (.var 0) (.str [])) (.or (.op .gtI (.bi .len (.cons (.var 0) .nil)) (.int 4)) (.one (.not (.bi .all (.cons (.lc (.op .in_ (.var 3) (.str [48, 49, 50, 51, 52, 53, 54, 55, 56, 57])) (.one 3) (.any (.var 0)) .hole) .nil))))))
    (.cons (.ret .non)
    .nil)
    .nil)
    (.cons (.set 2 (.bi .int (.cons (.var 0) .nil)))
    .nil))
    (.cons (.ife (.op .eqD (.var 1) (.str [108, 101, 116, 116, 101, 114, 115]))
    (.cons (.ife (.or (.op .gtI (.bi .len (.cons (.var 0) .nil)) (.int 4)) (.one (.not (.bi .all (.cons (.lc (.op .in_ (.var 3) (.str [97, 98, 99, 100, 101, 102, 103, 104, 105, 106, 107, 108, 109, 110, 111, 112, 113, 114, 115, 116, 117, 118, 119, 120, 121, 122])) (.one 3) (.any (.var 0)) .hole) .nil)))))
    (.cons (.ret .non)
    .nil)
    .nil)
    (.cons (.for (.one 3) (.any (.var 0))
    (.cons (.set 2 (.op .add (.op .add (.op .mul (.var 2) (.int 26)) (.mt .indexS (.str [97, 98, 99, 100, 101, 102, 103, 104, 105, 106, 107, 108, 109, 110, 111, 112, 113, 114, 115, 116, 117, 118, 119, 120, 121, 122]) (.cons (.var 3) .nil))) (.int 1)))
    .nil))
    .nil))
    (.cons (.set 4 (.dlit [([105], 1), ([118], 5), ([120], 10), ([108], 50), ([99], 100), ([100], 500), ([109], 1000)]))
    (.cons (.ife (.or (.op .gtI (.bi .len (.cons (.var 0) .nil)) (.int 20)) (.one (.not (.bi .all (.cons (.lc (.op .in_ (.var 3) (.str [105, 118, 120, 108, 99, 100, 109])) (.one 3) (.any (.var 0)) .hole) .nil)))))
    (.cons (.ret .non)
    .nil)
    .nil)
    (.cons (.for (.many [3, 5]) (.zipA (.var 0) (.op .add (.sl (.var 0) (.int 1) .hole) (.str [32])))
    (.cons (.set 6 (.and (.op .neD (.var 5) (.str [32])) (.one (.op .gtI (.ix (.var 4) (.var 5)) (.ix (.var 4) (.var 3))))))
    (.cons (.set 2 (.ife (.var 6) (.op .subI (.var 2) (.ix (.var 4) (.var 3))) (.op .add (.var 2) (.ix (.var 4) (.var 3)))))
    .nil)))
    .nil))))
    .nil))
    (.cons (.ret (.ife (.and (.chain .leI .leI (.int 1) (.var 2) (.int 3099)) (.one (.op .eqD (.call 10 (.cons (.var 2) (.cons (.var 1) .nil))) (.var 0)))) (.var 2) .non))
    .nil)))
def b__law_whole : Ss :=
    (.cons (.ret (.and (.isi (.var 0) .int) (.one (.not (.isi (.var 0) .bool)))))
    .nil)
def b__law_cell_at : Ss :=
    (.cons (.ife (.op .ltI (.var 1) (.bi .len (.cons (.var 0) .nil)))
    (.cons (.ret (.ix (.var 0) (.var 1)))
    .nil)
    .nil)
    (.cons (.ret (.int 0))
    .nil))
def b_law_2 : Ss :=
    (.cons (.for (.one 1) (.rng2 (.int 0) (.bi .max (.cons (.int 1) (.cons (.bi .min (.cons (.int 9) (.cons (.bi .len (.cons (.var 0) .nil)) .nil))) .nil))))
    (.cons (.set 2 (.call 14 (.cons (.var 0) (.cons (.var 1) .nil))))
    (.cons (.set 3 (.lst (.cons (.str []) (.cons (.str [48]) (.cons (.str [48, 49]) (.cons (.str [51, 49, 48, 48]) (.cons (.str [97]) (.cons (.str [105, 105, 105, 105]) (.cons (.str [118, 120]) (.cons (.str [105, 99]) (.cons (.str [109, 109, 109, 109]) (.cons (.str [109, 109, 109, 120, 99, 105, 120]) (.cons (.str [99, 109, 99, 109]) (.cons (.str [120, 108, 120]) .nil))))))))))))))
    (.cons (.set 3 (.op .add (.var 3) (.lst (.cons (.str [65]) (.cons (.str [49, 97]) (.cons (.str [101, 100, 117]) (.cons (.str [101, 100, 119]) (.cons (.str [100, 111, 101]) (.cons (.str [100, 111, 102]) (.cons (.str [109, 109, 109, 99]) (.cons (.str [49, 95, 48]) (.cons (.str [43, 55]) (.cons (.str [32, 55]) (.cons (.str [55, 32]) (.cons (.str [45, 55]) (.cons (.str [49, 101, 51]) (.cons (.str [55, 10]) .nil)))))))))))))))))
    (.cons (.set 3 (.op .add (.var 3) (.lst (.cons (.str [97, 10]) (.cons (.str [123]) (.cons (.str [96]) (.cons (.str [105, 10]) (.cons (.str [97, 123]) (.cons (.str [96, 97]) .nil)))))))))
    (.cons (.set 4 (.op .add (.int 1) (.call 8 (.cons (.var 2) (.cons (.var 1) (.cons (.int 3099) .nil))))))
    (.cons (.for (.one 5) (.any (.tup (.cons (.str [102, 105, 103, 117, 114, 101, 115]) (.cons (.str [108, 101, 116, 116, 101, 114, 115]) (.cons (.str [114, 111, 109, 97, 110]) .nil)))))
    (.cons (.set 8 (.call 10 (.cons (.var 4) (.cons (.var 5) .nil))))
    (.cons (.set 10 (.call 8 (.cons (.var 2) (.cons (.op .add (.var 1) (.int 1)) (.cons (.op .add (.bi .len (.cons (.var 8) .nil)) (.int 1)) .nil)))))
    (.cons (.set 9 (.ix (.str [105, 118, 120, 108, 99, 100, 109, 48, 49, 53, 57, 97, 122]) (.call 8 (.cons (.var 2) (.cons (.op .add (.var 1) (.int 2)) (.cons (.int 13) .nil))))))
    (.cons (.set 3 (.op .add (.var 3) (.lst (.cons (.op .add (.op .add (.sl (.var 8) .hole (.var 10)) (.var 9)) (.sl (.var 8) (.var 10) .hole)) (.cons (.op .add (.sl (.var 8) .hole (.var 10)) (.sl (.var 8) (.op .add (.var 10) (.int 1)) .hole)) (.cons (.op .add (.op .add (.sl (.var 8) .hole (.var 10)) (.var 9)) (.sl (.var 8) (.op .add (.var 10) (.int 1)) .hole)) .nil))))))
    .nil)))))
    (.cons (.set 6 (.str []))
    (.cons (.for (.one 7) (.rng1 (.call 8 (.cons (.var 2) (.cons (.op .add (.var 1) (.int 3)) (.cons (.int 6) .nil)))))
    (.cons (.set 6 (.op .add (.var 6) (.ix (.str [105, 118, 120, 99, 109, 57, 98]) (.call 8 (.cons (.op .add (.var 2) (.var 7)) (.cons (.op .add (.var 1) (.var 7)) (.cons (.int 7) .nil)))))))
    .nil))
    (.cons (.for (.one 8) (.any (.op .add (.var 3) (.lst (.cons (.var 6) .nil))))
    (.cons (.for (.one 5) (.any (.tup (.cons (.str [102, 105, 103, 117, 114, 101, 115]) (.cons (.str [108, 101, 116, 116, 101, 114, 115]) (.cons (.str [114, 111, 109, 97, 110]) .nil)))))
    (.cons (.set 11 (.call 6 (.cons (.var 8) (.cons (.var 5) .nil))))
    (.cons (.ife (.or (.op .neD (.var 11) (.call 11 (.cons (.var 8) (.cons (.var 5) .nil)))) (.one (.and (.op .isNot (.var 11) .non) (.one (.not (.call 12 (.cons (.var 11) .nil)))))))
    (.cons (.ret (.bl false))
    .nil)
    .nil)
    .nil)))
    .nil))
    .nil))))))))))
    (.cons (.for (.many [5, 9]) (.any (.tup (.cons (.tup (.cons (.str [102, 105, 103, 117, 114, 101, 115]) (.cons (.str [57]) .nil))) (.cons (.tup (.cons (.str [108, 101, 116, 116, 101, 114, 115]) (.cons (.str [122]) .nil))) (.cons (.tup (.cons (.str [114, 111, 109, 97, 110]) (.cons (.str [109]) .nil))) .nil)))))
    (.cons (.ife (.or (.op .isNot (.call 6 (.cons (.op .mul (.var 9) (.int 5000)) (.cons (.var 5) .nil))) .non) (.one (.op .isNot (.call 6 (.cons (.op .mul (.var 9) (.int 4)) (.cons (.var 5) .nil))) .non)))
    (.cons (.ret (.bl false))
    .nil)
    .nil)
    .nil))
    (.cons (.ret (.and (.op .is_ (.call 6 (.cons (.str [101, 100, 119]) (.cons (.str [108, 101, 116, 116, 101, 114, 115]) .nil))) .non) (.one (.op .eqD (.call 6 (.cons (.str [97, 98]) (.cons (.str [108, 101, 116, 116, 101, 114, 115]) .nil))) (.int 28)))))
    .nil)))
def CT : Nat → D
  | 0 => (.tup [(.str [102, 105, 103, 117, 114, 101, 115]), (.str [108, 101, 116, 116, 101, 114, 115]), (.str [114, 111, 109, 97, 110])])
  | 1 => (.int 3099)
  | 2 => (.str [97, 98, 99, 100, 101, 102, 103, 104, 105, 106, 107, 108, 109, 110, 111, 112, 113, 114, 115, 116, 117, 118, 119, 120, 121, 122])
  | 3 => (.tup [(.tup [(.int 1000), (.str [109])]), (.tup [(.int 900), (.str [99, 109])]), (.tup [(.int 500), (.str [100])]), (.tup [(.int 400), (.str [99, 100])]), (.tup [(.int 100), (.str [99])]), (.tup [(.int 90), (.str [120, 99])]), (.tup [(.int 50), (.str [108])]), (.tup [(.int 40), (.str [120, 108])]), (.tup [(.int 10), (.str [120])]), (.tup [(.int 9), (.str [105, 120])]), (.tup [(.int 5), (.str [118])]), (.tup [(.int 4), (.str [105, 118])]), (.tup [(.int 1), (.str [105])])])
  | 4 => (.int 9)
  | 5 => (.int 4)
  | 6 => (.int 3000)
  | 7 => (.int 2)
  | 8 => (.str [97, 98, 99, 100, 101, 102, 103, 104, 105, 106, 107, 108, 109, 110, 111, 112, 113, 114, 115, 116, 117, 118, 119, 120, 121, 122])
  | 9 => (.int 60)
  | 10 => (.int 320)
  | _ => .non
end B
end

section
set_option Elab.async false
set_option linter.all false
set_option maxRecDepth 100000
set_option maxHeartbeats 2000000
/-! N1: the laws' own numbers. -/
namespace B
section
variable (G : Sg) (o : Objs)
def primes : List Int := [1000003, 1000033, 1000037, 1000039, 1000081, 1000099, 1000117, 1000121, 1000133, 1000151, 1000159, 1000171, 1000183, 1000187, 1000193, 1000199]
def draw (c k m : Int) : Int := (c * 48271 + k * 69621) % (primes.getD (k % 16).toNat 1) % m
theorem prime_at (i : Int) (h0 : 0 ≤ i) (h1 : i < 16) : (atI (primes.map D.int) i) = some (.int (primes.getD i.toNat 1)) ∧ 0 < primes.getD i.toNat 1 := by
  obtain ⟨n, rfl⟩ := Int.eq_ofNat_of_zero_le h0
  have hn : n < 16 := by omega
  have := (by decide +kernel : ∀ n : Fin 16, primes.getD n.val 1 > 0)
  refine ⟨?_, this ⟨n, hn⟩⟩
  unfold atI ixN
  have l : (primes.map D.int).length = 16 := rfl
  rw [l, if_pos h0, if_pos (by omega)]
  show (primes.map D.int)[n]? = some (.int (primes.getD n 1))
  rw [List.getElem?_map, List.getD_eq_getElem?_getD]
  have : n < primes.length := hn
  rw [List.getElem?_eq_getElem this]
  rfl
theorem t1 (c k m : Int) (h : c.natAbs < 2 ^ 600) (hk : k.natAbs < 2 ^ 600) (hm : 0 < m) : runDef G b__law_draw 4 [⟨.int c, .fz⟩, ⟨.int k, .fz⟩, ⟨.int m, .fz⟩] o = .ok ⟨.int (draw c k m), .fz⟩ o := by
  unfold b__law_draw
  have hp := prime_at (k % 16) (Int.emod_nonneg _ (by decide)) (Int.emod_lt_of_pos _ (by decide))
  obtain ⟨hp1, hp2⟩ := hp
  have hp1' : atI [D.int 1000003, D.int 1000033, D.int 1000037, D.int 1000039, D.int 1000081, D.int 1000099, D.int 1000117, D.int 1000121, D.int 1000133, D.int 1000151, D.int 1000159, D.int 1000171, D.int 1000183, D.int 1000187, D.int 1000193, D.int 1000199] (k % 16) = some (.int (primes.getD (k % 16).toNat 1)) := hp1
  simp only [List.length_cons, List.length_nil, Nat.reduceAdd, Nat.reduceLeDiff, if_true, List.map_cons, List.map_nil, Nat.reduceSub, List.replicate_succ, List.replicate_zero, List.cons_append, List.nil_append, List.all_cons, List.all_nil, Bool.and_true, Bool.true_and, Bool.and_self, decide_true, decide_false, Bool.false_or, Bool.or_false, List.contains_nil, if_false, Bool.false_eq_true, le_big, nal_fz, nal_fz', nal_ex', E.isHole, run_eq, reduceIte, cnd_bl, sl_0, sl_s, rd_val, rd_own, rd_ownd, pass_fz, pass_ex, pass_al, bind_ok, bind_bad, out_ok, out_bad, seq_next, seq_ret, seq_brk, seq_cnt, seq_bad, ofO_some, ofO_none, ev_var, ev_int, ev_str, ev_bl, ev_non, ev_glb, ev_op, ngI_int, ev_neg, nt_bl, ev_not, ev_and, ev_or, ev_one, ev_ife, oc_bl, ev_chain, ev_call, ev_bi, ev_isi, ev_mt, ev_ix, ev_sl, toI_int, optI_t, optI_f, ev_lst, ev_tup, ev_nil, ev_cons, ss_nil_, ss_cons_, s_set, s_own, s_par, s_ife, s_for, s_whl, s_drop, s_app, obE_s, loop_1, loop_m, s_ret, s_retN, s_nev, s_brk, s_cnt, s_pass, outO_some, outO_none, lk_nil, lk_cons, st1_0, st1_s, put_fz, put_ex, put_own, putV_nil, putV_cons, putA_nil, putA_cons, fin_next, fin_ret, fin_bad, nal_fz, nal_ex, nal_fz, nal_ex, add_ii, sub_ii, lt_ii, le_ii, gt_ii, ge_ii, is_n, isNot_n, eq_ss, ne_ss, eq_ii, ne_ii, eq_ns, in_ss, notIn_ss, kd_add_i, kd_add_s, kd_add_l, kd_mul_i, kd_sub, kd_fdiv, kd_mod, kd_pow, kd_lt, kd_le, kd_gt, kd_ge, kd_eq, kd_ne, kd_is, kd_isn, kd_in, kd_nin, ix_l, ix_t, ix_scr, map_some_, map_none_, bindO_some, bindO_none, it_any, it_A_t, it_A_s, it_A_l, it_L_fz, it_L_ex, it_L_al, it_r1, it_r2, it_r3, it_enum, it_zip, it_zip3, it_zipA, it_Z_s, it_Z_l, ev_lc, lc_fr_n, lc_fr_v, lc_free, lc_tgIx_1, lc_tgIx_m, obE_R, lc_optK_t, lc_optK_f, lc_noExc_ok, lc_noExc_bad, lc_noExc_exc, lcB_1, lcB_2, lcB_3, isO_own, isO_y, onO_eq, onO_s, bi_len_l, bi_len_scr, bi_len_t, bi_abs, bi_all, bi_any, bi_list, bi_tuple, ix_sl_l, ix_sl_scr, ix_d, ev_dlit, put_ownd, kd_mul_s, kd_mul_l, kd_mul_t, kd_inQ, kd_notInQ, kd_addS, kd_addL, isNon_n, isN_bl, isN_int, isN_str, isN_lst, isN_tup, ty_int_n, ty_int_b, ty_int_i, ty_int_s, ty_int_l, ty_int_t, ty_int_scr, ty_int_d, ty_str_n, ty_str_b, ty_str_i, ty_str_s, ty_str_l, ty_str_t, ty_str_scr, ty_str_d, ty_bool_n, ty_bool_b, ty_bool_i, ty_bool_s, ty_bool_l, ty_bool_t, ty_bool_scr, ty_bool_d, ty_list_n, ty_list_b, ty_list_i, ty_list_s, ty_list_l, ty_list_t, ty_list_scr, ty_list_d, ty_tuple_n, ty_tuple_b, ty_tuple_i, ty_tuple_s, ty_tuple_l, ty_tuple_t, ty_tuple_scr, ty_tuple_d, mtr_split, mtr_join, mtr_starts, mtr_lstrip, mtr_indexS, mtr_indexL, mtr_count, mtr_get1, mtr_get2, eq_nn_, ne_nn_, eq_nb_, ne_nb_, eq_ni_, ne_ni_, eq_bn_, ne_bn_, eq_bb_, ne_bb_, eq_bi_, ne_bi_, eq_bs_, ne_bs_, eq_in_, ne_in_, eq_ib_, ne_ib_, eq_is_, ne_is_, eq_sn_, ne_sn_, eq_sb_, ne_sb_, eq_si_, ne_si_, ne_ns_, c_mul, c_fdiv, c_mod, c_pow, c_adds, c_addl, c_ixs, lt600, lt60, lt1000, c_rng1, c_rng2, c_rng3, c_len, c_str, c_int, c_starts, c_indexS, c_sls, Nat.reduceLT, Int.reduceLT, Int.reduceLE, Int.reduceNeg, Int.reduceToNat, Int.reducePow, Int.reduceMul, Int.reduceAdd, Int.reduceSub, Bool.not_true, Bool.not_false, It.slots, E.slot, Nat.reduceBEq, Sc.d, Int.reduceEq, Nat.reduceEqDiff, h, hk, hm, hp1', hp2]
  rfl
/-- the divisor -/
def dAt (k : Int) : Int := [1, 7, 49, 343, 2401].getD (k % 5).toNat 1
theorem d_at (k : Int) : (atI [D.int 1, D.int 7, D.int 49, D.int 343, D.int 2401] (k % 5)) = some (.int (dAt k)) ∧ 0 < dAt k ∧ dAt k ≤ 2401 := by
  unfold dAt
  have h0 : 0 ≤ k % 5 := Int.emod_nonneg _ (by decide)
  have h1 : k % 5 < 5 := Int.emod_lt_of_pos _ (by decide)
  generalize k % 5 = i at h0 h1
  have : i = 0 ∨ i = 1 ∨ i = 2 ∨ i = 3 ∨ i = 4 := by omega
  rcases this with rfl | rfl | rfl | rfl | rfl <;> exact ⟨rfl, by decide, by decide⟩
theorem na600 {i : Int} {n : Nat} (h : i.natAbs ≤ n) (h2 : n < 2 ^ 600) : i.natAbs < 2 ^ 600 := Nat.lt_of_le_of_lt h h2
theorem mul600 {a b : Int} (x y : Nat) (ha : a.natAbs ≤ x) (hb : b.natAbs ≤ y) : (a * b).natAbs ≤ x * y := by
  rw [Int.natAbs_mul]; exact Nat.mul_le_mul ha hb
/-- the law's product is not great -/
theorem law_big (c k : Int) (hk0 : 0 ≤ k) (hk : k ≤ 1000000) (h1 : -1000000000000000000 ≤ c) (h2 : c < 1000811284336359577647248616306026718125307353262274591) :
    (c + 977 * k).natAbs < 2 ^ 600 ∧ (c + 31 * k + 5).natAbs < 2 ^ 600 ∧ ((c + 977 * k) * (c + 31 * k + 5)).natAbs < 2 ^ 600 := by
  have a1 : (c + 977 * k).natAbs ≤ 1000811284336359577647248616306026718125307353262274591000 := by omega
  have a2 : (c + 31 * k + 5).natAbs ≤ 1000811284336359577647248616306026718125307353262274591000 := by omega
  exact ⟨na600 a1 (by decide), na600 a2 (by decide), na600 (mul600 _ _ a1 a2) (by decide)⟩
def redC (c : Int) : Int := if c < -1000000000000000000 then c % 1000811284336359577647248616306026718125307353262274591 else c
/-- the law's number of a cell, below a limit -/
def lawNum (c k m : Int) : Int :=
  if 1000000000000000000 ≤ c then (c - 1000000000000000000) % (dAt k * m) / dAt k
  else draw ((redC c + 977 * k) * (redC c + 31 * k + 5)) (k % 9 + 1) 999983 % m
theorem lawNum_lt (c k m : Int) (h : 0 < m) : 0 ≤ lawNum c k m ∧ lawNum c k m < m := by
  unfold lawNum
  have hd := (d_at k).2.1
  split
  · have p : 0 < dAt k * m := Int.mul_pos hd h
    refine ⟨Int.ediv_nonneg (Int.emod_nonneg _ (Int.ne_of_gt p)) (Int.le_of_lt hd), ?_⟩
    apply Int.ediv_lt_of_lt_mul hd
    rw [Int.mul_comm m]
    exact Int.emod_lt_of_pos _ p
  · exact ⟨Int.emod_nonneg _ (Int.ne_of_gt h), Int.emod_lt_of_pos _ h⟩
theorem t2 (h7 : ∀ c k m o, c.natAbs < 2 ^ 600 → k.natAbs < 2 ^ 600 → 0 < m → G.fn 7 [⟨.int c, .fz⟩, ⟨.int k, .fz⟩, ⟨.int m, .fz⟩] o = .ok ⟨.int (draw c k m), .fz⟩ o)
    (c k m : Int) (hk0 : 0 ≤ k) (hk : k ≤ 1000000) (hm : 0 < m) (hm2 : m ≤ 1000000) :
    runDef G b__law_number 4 [⟨.int c, .fz⟩, ⟨.int k, .fz⟩, ⟨.int m, .fz⟩] o = .ok ⟨.int (lawNum c k m), .fz⟩ o := by
  unfold b__law_number
  obtain ⟨d1, d2, d3⟩ := d_at k
  have e1 : (dAt k).natAbs < 2 ^ 600 := na600 (n := 2401) (by omega) (by decide)
  have e2 : m.natAbs < 2 ^ 600 := na600 (n := 1000000) (by omega) (by decide)
  have e3 : 0 < dAt k * m := Int.mul_pos d2 hm
  have e4 : k.natAbs < 2 ^ 600 := na600 (n := 1000000) (by omega) (by decide)
  have e5 : (k % 9 + 1).natAbs < 2 ^ 600 := na600 (n := 1000000) (by omega) (by decide)
  have c977 : (977 : Int).natAbs < 2 ^ 600 := by decide
  have c31 : (31 : Int).natAbs < 2 ^ 600 := by decide
  unfold lawNum
  by_cases h : 1000000000000000000 ≤ c
  · simp only [List.length_cons, List.length_nil, Nat.reduceAdd, Nat.reduceLeDiff, if_true, List.map_cons, List.map_nil, Nat.reduceSub, List.replicate_succ, List.replicate_zero, List.cons_append, List.nil_append, List.all_cons, List.all_nil, Bool.and_true, Bool.true_and, Bool.and_self, decide_true, decide_false, Bool.false_or, Bool.or_false, List.contains_nil, if_false, Bool.false_eq_true, le_big, nal_fz, nal_fz', nal_ex', E.isHole, run_eq, reduceIte, cnd_bl, sl_0, sl_s, rd_val, rd_own, rd_ownd, pass_fz, pass_ex, pass_al, bind_ok, bind_bad, out_ok, out_bad, seq_next, seq_ret, seq_brk, seq_cnt, seq_bad, ofO_some, ofO_none, ev_var, ev_int, ev_str, ev_bl, ev_non, ev_glb, ev_op, ngI_int, ev_neg, nt_bl, ev_not, ev_and, ev_or, ev_one, ev_ife, oc_bl, ev_chain, ev_call, ev_bi, ev_isi, ev_mt, ev_ix, ev_sl, toI_int, optI_t, optI_f, ev_lst, ev_tup, ev_nil, ev_cons, ss_nil_, ss_cons_, s_set, s_own, s_par, s_ife, s_for, s_whl, s_drop, s_app, obE_s, loop_1, loop_m, s_ret, s_retN, s_nev, s_brk, s_cnt, s_pass, outO_some, outO_none, lk_nil, lk_cons, st1_0, st1_s, put_fz, put_ex, put_own, putV_nil, putV_cons, putA_nil, putA_cons, fin_next, fin_ret, fin_bad, nal_fz, nal_ex, nal_fz, nal_ex, add_ii, sub_ii, lt_ii, le_ii, gt_ii, ge_ii, is_n, isNot_n, eq_ss, ne_ss, eq_ii, ne_ii, eq_ns, in_ss, notIn_ss, kd_add_i, kd_add_s, kd_add_l, kd_mul_i, kd_sub, kd_fdiv, kd_mod, kd_pow, kd_lt, kd_le, kd_gt, kd_ge, kd_eq, kd_ne, kd_is, kd_isn, kd_in, kd_nin, ix_l, ix_t, ix_scr, map_some_, map_none_, bindO_some, bindO_none, it_any, it_A_t, it_A_s, it_A_l, it_L_fz, it_L_ex, it_L_al, it_r1, it_r2, it_r3, it_enum, it_zip, it_zip3, it_zipA, it_Z_s, it_Z_l, ev_lc, lc_fr_n, lc_fr_v, lc_free, lc_tgIx_1, lc_tgIx_m, obE_R, lc_optK_t, lc_optK_f, lc_noExc_ok, lc_noExc_bad, lc_noExc_exc, lcB_1, lcB_2, lcB_3, isO_own, isO_y, onO_eq, onO_s, bi_len_l, bi_len_scr, bi_len_t, bi_abs, bi_all, bi_any, bi_list, bi_tuple, ix_sl_l, ix_sl_scr, ix_d, ev_dlit, put_ownd, kd_mul_s, kd_mul_l, kd_mul_t, kd_inQ, kd_notInQ, kd_addS, kd_addL, isNon_n, isN_bl, isN_int, isN_str, isN_lst, isN_tup, ty_int_n, ty_int_b, ty_int_i, ty_int_s, ty_int_l, ty_int_t, ty_int_scr, ty_int_d, ty_str_n, ty_str_b, ty_str_i, ty_str_s, ty_str_l, ty_str_t, ty_str_scr, ty_str_d, ty_bool_n, ty_bool_b, ty_bool_i, ty_bool_s, ty_bool_l, ty_bool_t, ty_bool_scr, ty_bool_d, ty_list_n, ty_list_b, ty_list_i, ty_list_s, ty_list_l, ty_list_t, ty_list_scr, ty_list_d, ty_tuple_n, ty_tuple_b, ty_tuple_i, ty_tuple_s, ty_tuple_l, ty_tuple_t, ty_tuple_scr, ty_tuple_d, mtr_split, mtr_join, mtr_starts, mtr_lstrip, mtr_indexS, mtr_indexL, mtr_count, mtr_get1, mtr_get2, eq_nn_, ne_nn_, eq_nb_, ne_nb_, eq_ni_, ne_ni_, eq_bn_, ne_bn_, eq_bb_, ne_bb_, eq_bi_, ne_bi_, eq_bs_, ne_bs_, eq_in_, ne_in_, eq_ib_, ne_ib_, eq_is_, ne_is_, eq_sn_, ne_sn_, eq_sb_, ne_sb_, eq_si_, ne_si_, ne_ns_, c_mul, c_fdiv, c_mod, c_pow, c_adds, c_addl, c_ixs, lt600, lt60, lt1000, c_rng1, c_rng2, c_rng3, c_len, c_str, c_int, c_starts, c_indexS, c_sls, Nat.reduceLT, Int.reduceLT, Int.reduceLE, Int.reduceNeg, Int.reduceToNat, Int.reducePow, Int.reduceMul, Int.reduceAdd, Int.reduceSub, Bool.not_true, Bool.not_false, It.slots, E.slot, Nat.reduceBEq, Sc.d, Int.reduceEq, Nat.reduceEqDiff, d1, d2, e1, e2, e3, h]
    try rfl
  · rw [if_neg h]
    unfold redC
    by_cases h2 : c < -1000000000000000000
    · have h3 : c % 1000811284336359577647248616306026718125307353262274591 < 1000811284336359577647248616306026718125307353262274591 := Int.emod_lt_of_pos _ (by decide)
      have h4 : 0 ≤ c % 1000811284336359577647248616306026718125307353262274591 := Int.emod_nonneg _ (by decide)
      rw [if_pos h2]
      obtain ⟨b1, b2, b3⟩ := law_big (c % 1000811284336359577647248616306026718125307353262274591) k hk0 hk (by omega) h3
      have h2' : decide (c < -1000000000000000000) = true := decide_eq_true h2
      have h' : decide (1000000000000000000 ≤ c) = false := decide_eq_false h
      simp only [List.length_cons, List.length_nil, Nat.reduceAdd, Nat.reduceLeDiff, if_true, List.map_cons, List.map_nil, Nat.reduceSub, List.replicate_succ, List.replicate_zero, List.cons_append, List.nil_append, List.all_cons, List.all_nil, Bool.and_true, Bool.true_and, Bool.and_self, decide_true, decide_false, Bool.false_or, Bool.or_false, List.contains_nil, if_false, Bool.false_eq_true, le_big, nal_fz, nal_fz', nal_ex', E.isHole, run_eq, reduceIte, cnd_bl, sl_0, sl_s, rd_val, rd_own, rd_ownd, pass_fz, pass_ex, pass_al, bind_ok, bind_bad, out_ok, out_bad, seq_next, seq_ret, seq_brk, seq_cnt, seq_bad, ofO_some, ofO_none, ev_var, ev_int, ev_str, ev_bl, ev_non, ev_glb, ev_op, ngI_int, ev_neg, nt_bl, ev_not, ev_and, ev_or, ev_one, ev_ife, oc_bl, ev_chain, ev_call, ev_bi, ev_isi, ev_mt, ev_ix, ev_sl, toI_int, optI_t, optI_f, ev_lst, ev_tup, ev_nil, ev_cons, ss_nil_, ss_cons_, s_set, s_own, s_par, s_ife, s_for, s_whl, s_drop, s_app, obE_s, loop_1, loop_m, s_ret, s_retN, s_nev, s_brk, s_cnt, s_pass, outO_some, outO_none, lk_nil, lk_cons, st1_0, st1_s, put_fz, put_ex, put_own, putV_nil, putV_cons, putA_nil, putA_cons, fin_next, fin_ret, fin_bad, nal_fz, nal_ex, nal_fz, nal_ex, add_ii, sub_ii, lt_ii, le_ii, gt_ii, ge_ii, is_n, isNot_n, eq_ss, ne_ss, eq_ii, ne_ii, eq_ns, in_ss, notIn_ss, kd_add_i, kd_add_s, kd_add_l, kd_mul_i, kd_sub, kd_fdiv, kd_mod, kd_pow, kd_lt, kd_le, kd_gt, kd_ge, kd_eq, kd_ne, kd_is, kd_isn, kd_in, kd_nin, ix_l, ix_t, ix_scr, map_some_, map_none_, bindO_some, bindO_none, it_any, it_A_t, it_A_s, it_A_l, it_L_fz, it_L_ex, it_L_al, it_r1, it_r2, it_r3, it_enum, it_zip, it_zip3, it_zipA, it_Z_s, it_Z_l, ev_lc, lc_fr_n, lc_fr_v, lc_free, lc_tgIx_1, lc_tgIx_m, obE_R, lc_optK_t, lc_optK_f, lc_noExc_ok, lc_noExc_bad, lc_noExc_exc, lcB_1, lcB_2, lcB_3, isO_own, isO_y, onO_eq, onO_s, bi_len_l, bi_len_scr, bi_len_t, bi_abs, bi_all, bi_any, bi_list, bi_tuple, ix_sl_l, ix_sl_scr, ix_d, ev_dlit, put_ownd, kd_mul_s, kd_mul_l, kd_mul_t, kd_inQ, kd_notInQ, kd_addS, kd_addL, isNon_n, isN_bl, isN_int, isN_str, isN_lst, isN_tup, ty_int_n, ty_int_b, ty_int_i, ty_int_s, ty_int_l, ty_int_t, ty_int_scr, ty_int_d, ty_str_n, ty_str_b, ty_str_i, ty_str_s, ty_str_l, ty_str_t, ty_str_scr, ty_str_d, ty_bool_n, ty_bool_b, ty_bool_i, ty_bool_s, ty_bool_l, ty_bool_t, ty_bool_scr, ty_bool_d, ty_list_n, ty_list_b, ty_list_i, ty_list_s, ty_list_l, ty_list_t, ty_list_scr, ty_list_d, ty_tuple_n, ty_tuple_b, ty_tuple_i, ty_tuple_s, ty_tuple_l, ty_tuple_t, ty_tuple_scr, ty_tuple_d, mtr_split, mtr_join, mtr_starts, mtr_lstrip, mtr_indexS, mtr_indexL, mtr_count, mtr_get1, mtr_get2, eq_nn_, ne_nn_, eq_nb_, ne_nb_, eq_ni_, ne_ni_, eq_bn_, ne_bn_, eq_bb_, ne_bb_, eq_bi_, ne_bi_, eq_bs_, ne_bs_, eq_in_, ne_in_, eq_ib_, ne_ib_, eq_is_, ne_is_, eq_sn_, ne_sn_, eq_sb_, ne_sb_, eq_si_, ne_si_, ne_ns_, c_mul, c_fdiv, c_mod, c_pow, c_adds, c_addl, c_ixs, lt600, lt60, lt1000, c_rng1, c_rng2, c_rng3, c_len, c_str, c_int, c_starts, c_indexS, c_sls, Nat.reduceLT, Int.reduceLT, Int.reduceLE, Int.reduceNeg, Int.reduceToNat, Int.reducePow, Int.reduceMul, Int.reduceAdd, Int.reduceSub, Bool.not_true, Bool.not_false, It.slots, E.slot, Nat.reduceBEq, Sc.d, Int.reduceEq, Nat.reduceEqDiff, d1, d2, e1, e2, e3, e4, h', h2', b1, b2, b3, c977, c31, h7 _ _ _ _ b3 e5 (show (0 : Int) < 999983 by decide), hm]
    · rw [if_neg h2]
      obtain ⟨b1, b2, b3⟩ := law_big c k hk0 hk (by omega) (by omega)
      have h2' : decide (c < -1000000000000000000) = false := decide_eq_false h2
      have h' : decide (1000000000000000000 ≤ c) = false := decide_eq_false h
      simp only [List.length_cons, List.length_nil, Nat.reduceAdd, Nat.reduceLeDiff, if_true, List.map_cons, List.map_nil, Nat.reduceSub, List.replicate_succ, List.replicate_zero, List.cons_append, List.nil_append, List.all_cons, List.all_nil, Bool.and_true, Bool.true_and, Bool.and_self, decide_true, decide_false, Bool.false_or, Bool.or_false, List.contains_nil, if_false, Bool.false_eq_true, le_big, nal_fz, nal_fz', nal_ex', E.isHole, run_eq, reduceIte, cnd_bl, sl_0, sl_s, rd_val, rd_own, rd_ownd, pass_fz, pass_ex, pass_al, bind_ok, bind_bad, out_ok, out_bad, seq_next, seq_ret, seq_brk, seq_cnt, seq_bad, ofO_some, ofO_none, ev_var, ev_int, ev_str, ev_bl, ev_non, ev_glb, ev_op, ngI_int, ev_neg, nt_bl, ev_not, ev_and, ev_or, ev_one, ev_ife, oc_bl, ev_chain, ev_call, ev_bi, ev_isi, ev_mt, ev_ix, ev_sl, toI_int, optI_t, optI_f, ev_lst, ev_tup, ev_nil, ev_cons, ss_nil_, ss_cons_, s_set, s_own, s_par, s_ife, s_for, s_whl, s_drop, s_app, obE_s, loop_1, loop_m, s_ret, s_retN, s_nev, s_brk, s_cnt, s_pass, outO_some, outO_none, lk_nil, lk_cons, st1_0, st1_s, put_fz, put_ex, put_own, putV_nil, putV_cons, putA_nil, putA_cons, fin_next, fin_ret, fin_bad, nal_fz, nal_ex, nal_fz, nal_ex, add_ii, sub_ii, lt_ii, le_ii, gt_ii, ge_ii, is_n, isNot_n, eq_ss, ne_ss, eq_ii, ne_ii, eq_ns, in_ss, notIn_ss, kd_add_i, kd_add_s, kd_add_l, kd_mul_i, kd_sub, kd_fdiv, kd_mod, kd_pow, kd_lt, kd_le, kd_gt, kd_ge, kd_eq, kd_ne, kd_is, kd_isn, kd_in, kd_nin, ix_l, ix_t, ix_scr, map_some_, map_none_, bindO_some, bindO_none, it_any, it_A_t, it_A_s, it_A_l, it_L_fz, it_L_ex, it_L_al, it_r1, it_r2, it_r3, it_enum, it_zip, it_zip3, it_zipA, it_Z_s, it_Z_l, ev_lc, lc_fr_n, lc_fr_v, lc_free, lc_tgIx_1, lc_tgIx_m, obE_R, lc_optK_t, lc_optK_f, lc_noExc_ok, lc_noExc_bad, lc_noExc_exc, lcB_1, lcB_2, lcB_3, isO_own, isO_y, onO_eq, onO_s, bi_len_l, bi_len_scr, bi_len_t, bi_abs, bi_all, bi_any, bi_list, bi_tuple, ix_sl_l, ix_sl_scr, ix_d, ev_dlit, put_ownd, kd_mul_s, kd_mul_l, kd_mul_t, kd_inQ, kd_notInQ, kd_addS, kd_addL, isNon_n, isN_bl, isN_int, isN_str, isN_lst, isN_tup, ty_int_n, ty_int_b, ty_int_i, ty_int_s, ty_int_l, ty_int_t, ty_int_scr, ty_int_d, ty_str_n, ty_str_b, ty_str_i, ty_str_s, ty_str_l, ty_str_t, ty_str_scr, ty_str_d, ty_bool_n, ty_bool_b, ty_bool_i, ty_bool_s, ty_bool_l, ty_bool_t, ty_bool_scr, ty_bool_d, ty_list_n, ty_list_b, ty_list_i, ty_list_s, ty_list_l, ty_list_t, ty_list_scr, ty_list_d, ty_tuple_n, ty_tuple_b, ty_tuple_i, ty_tuple_s, ty_tuple_l, ty_tuple_t, ty_tuple_scr, ty_tuple_d, mtr_split, mtr_join, mtr_starts, mtr_lstrip, mtr_indexS, mtr_indexL, mtr_count, mtr_get1, mtr_get2, eq_nn_, ne_nn_, eq_nb_, ne_nb_, eq_ni_, ne_ni_, eq_bn_, ne_bn_, eq_bb_, ne_bb_, eq_bi_, ne_bi_, eq_bs_, ne_bs_, eq_in_, ne_in_, eq_ib_, ne_ib_, eq_is_, ne_is_, eq_sn_, ne_sn_, eq_sb_, ne_sb_, eq_si_, ne_si_, ne_ns_, c_mul, c_fdiv, c_mod, c_pow, c_adds, c_addl, c_ixs, lt600, lt60, lt1000, c_rng1, c_rng2, c_rng3, c_len, c_str, c_int, c_starts, c_indexS, c_sls, Nat.reduceLT, Int.reduceLT, Int.reduceLE, Int.reduceNeg, Int.reduceToNat, Int.reducePow, Int.reduceMul, Int.reduceAdd, Int.reduceSub, Bool.not_true, Bool.not_false, It.slots, E.slot, Nat.reduceBEq, Sc.d, Int.reduceEq, Nat.reduceEqDiff, d1, d2, e1, e2, e3, e4, h', h2', b1, b2, b3, c977, c31, h7 _ _ _ _ b3 e5 (show (0 : Int) < 999983 by decide), hm]
end
end B
end

section
set_option Elab.async false
set_option linter.all false
set_option maxRecDepth 100000
set_option maxHeartbeats 4000000
/-! N2: numerals, plain. -/
namespace B
def kF : Txt := [102, 105, 103, 117, 114, 101, 115]
def kL : Txt := [108, 101, 116, 116, 101, 114, 115]
def kR : Txt := [114, 111, 109, 97, 110]
def isK (k : Txt) : Prop := k = kF ∨ k = kL ∨ k = kR
def abc : Txt := [97, 98, 99, 100, 101, 102, 103, 104, 105, 106, 107, 108, 109, 110, 111, 112, 113, 114, 115, 116, 117, 118, 119, 120, 121, 122]
def dig : Txt := [48, 49, 50, 51, 52, 53, 54, 55, 56, 57]
def romS : Txt := [105, 118, 120, 108, 99, 100, 109]
def letF : Nat → Nat → Txt → Txt
  | 0, _, a => a
  | f + 1, n, a => if n = 0 then a else letF f ((n - 1) / 26) ((97 + (n - 1) % 26) :: a)
def pieces : List (Nat × Txt) := [(1000, [109]), (900, [99, 109]), (500, [100]), (400, [99, 100]), (100, [99]), (90, [120, 99]), (50, [108]), (40, [120, 108]), (10, [120]), (9, [105, 120]), (5, [118]), (4, [105, 118]), (1, [105])]
def romF : List (Nat × Txt) → Nat → Txt → Txt
  | [], _, a => a
  | p :: r, n, a => romF r (n % p.1) (a ++ (List.replicate (n / p.1) p.2).flatten)
/-- a number written -/
def numF (n : Nat) (k : Txt) : Txt := if k = kF then figs n else if k = kL then letF n n [] else romF pieces n []
def valL : Txt → Nat → Nat
  | [], v => v
  | c :: r, v => if abc.contains c then valL r (26 * v + posOf c abc + 1) else 0
def eat (p : Txt) (w : Nat) : Nat → Txt → Nat → Txt × Nat
  | 0, t, v => (t, v)
  | f + 1, t, v => if p.isPrefixOf t then eat p w f (t.drop p.length) (v + w) else (t, v)
def valR : List (Nat × Txt) → Txt → Nat → Nat
  | [], t, v => if t = [] then v else 0
  | p :: r, t, v => let x := eat p.2 p.1 t.length t v; valR r x.1 x.2
def valOf (t k : Txt) : Nat := if k = kF then (if t ≠ [] ∧ (t.all fun c => dig.contains c) = true then numT t else 0) else if k = kL then valL t 0 else valR pieces t 0
def numFrom (t k : Txt) : Option Nat := if 20 < t.length then none else if 1 ≤ valOf t k ∧ valOf t k ≤ 3099 ∧ numF (valOf t k) k = t then some (valOf t k) else none
/-! the law's own -/
def lmW : Nat → Nat → Nat → Nat × Nat
  | 0, m, l => (m, l)
  | f + 1, m, l => if 26 * 26 ^ (m - 1) ≤ l then lmW f (m + 1) (l - 26 * 26 ^ (m - 1)) else (m, l)
def lmD : Nat → Nat → Txt → Txt
  | 0, _, a => a
  | m + 1, l, a => lmD m (l / 26) ((97 + l % 26) :: a)
def lfig : List Txt := [[], [49], [49, 49], [49, 49, 49], [49, 53], [53], [53, 49], [53, 49, 49], [53, 49, 49, 49], [49, 116]]
def lrow : List (Nat × Txt × Txt × Txt) := [(1000, [109], [], []), (100, [99], [100], [109]), (10, [120], [108], [99]), (1, [105], [118], [120])]
def lsign (p : Nat × Txt × Txt × Txt) (s : Nat) : Txt := if s = 49 then p.2.1 else if s = 53 then p.2.2.1 else p.2.2.2
def lawRomP (n : Nat) (p : Nat × Txt × Txt × Txt) : Txt := (lfig.getD (n / p.1 % 10) []).flatMap (lsign p)
def lawRom (n : Nat) : Txt := lrow.flatMap (lawRomP n)
def lawNumF (n : Nat) (k : Txt) : Txt := if k = kF then figs n else if k = kL then lmD (lmW 5 1 (n - 1)).1 (lmW 5 1 (n - 1)).2 [] else lawRom n
def worth (c : Nat) : Int := if c = 105 then 1 else if c = 118 then 5 else if c = 120 then 10 else if c = 108 then 50 else if c = 99 then 100 else if c = 100 then 500 else 1000
def lawRV : Txt → Int → Int
  | [], v => v
  | c :: r, v => lawRV r (match r with
    | [] => v + worth c
    | d :: _ => if worth c < worth d then v - worth c else v + worth c)
def lawLV : Txt → Int → Int
  | [], v => v
  | c :: r, v => lawLV r (v * 26 + posOf c abc + 1)
def lawValN (t k : Txt) : Option Int :=
  if k = kF then (if t = [] ∨ 4 < t.length ∨ (t.all fun c => dig.contains c) = false then none else some (numT t))
  else if k = kL then (if 4 < t.length ∨ (t.all fun c => abc.contains c) = false then none else some (lawLV t 0))
  else (if 20 < t.length ∨ (t.all fun c => romS.contains c) = false then none else some (lawRV t 0))
def lawVal (t k : Txt) : Option Nat := match lawValN t k with
  | none => none
  | some v => if 1 ≤ v ∧ v ≤ 3099 ∧ lawNumF v.toNat k = t then some v.toNat else none
/-- the check of all numbers -/
def chk (n : Nat) (k : Txt) : Bool := let t := numF n k; (lawNumF n k == t) && (valOf t k == n) && (lawValN t k == some (n : Int)) && decide (t.length ≤ 20)
def chkF (n : Nat) : Bool := let t := figs n; (valOf t kF == n) && (lawValN t kF == some (n : Int)) && decide (t.length ≤ 20)
def chk3 (n : Nat) : Bool := chkF n && chk n kL && chk n kR
/-- the check of some numbers behind lo -/
def chks (lo : Nat) : Nat → Bool
  | 0 => true
  | n + 1 => chk3 (lo + n) && chks lo n
theorem chks_at (lo : Nat) : ∀ m n, chks lo m = true → lo ≤ n → n < lo + m → chk3 n = true
  | 0, n, _, h1, h2 => by omega
  | m + 1, n, h, h1, h2 => by
    simp only [chks, Bool.and_eq_true] at h
    by_cases e : n = lo + m
    · rw [e]; exact h.1
    · exact chks_at lo m n h.2 h1 (by omega)
theorem chks_0 : chks 1 150 = true := by decide +kernel
theorem chks_1 : chks 151 150 = true := by decide +kernel
theorem chks_2 : chks 301 150 = true := by decide +kernel
theorem chks_3 : chks 451 150 = true := by decide +kernel
theorem chks_4 : chks 601 150 = true := by decide +kernel
theorem chks_5 : chks 751 150 = true := by decide +kernel
theorem chks_6 : chks 901 150 = true := by decide +kernel
theorem chks_7 : chks 1051 150 = true := by decide +kernel
theorem chks_8 : chks 1201 150 = true := by decide +kernel
theorem chks_9 : chks 1351 150 = true := by decide +kernel
theorem chks_10 : chks 1501 150 = true := by decide +kernel
theorem chks_11 : chks 1651 150 = true := by decide +kernel
theorem chks_12 : chks 1801 150 = true := by decide +kernel
theorem chks_13 : chks 1951 150 = true := by decide +kernel
theorem chks_14 : chks 2101 150 = true := by decide +kernel
theorem chks_15 : chks 2251 150 = true := by decide +kernel
theorem chks_16 : chks 2401 150 = true := by decide +kernel
theorem chks_17 : chks 2551 150 = true := by decide +kernel
theorem chks_18 : chks 2701 150 = true := by decide +kernel
theorem chks_19 : chks 2851 150 = true := by decide +kernel
theorem chks_20 : chks 3001 99 = true := by decide +kernel
theorem chks_ok (n : Nat) (h1 : 1 ≤ n) (h2 : n ≤ 3099) : chk3 n = true := by
  by_cases h : n < 151
  · exact chks_at 1 150 n chks_0 (by omega) (by omega)
  by_cases h : n < 301
  · exact chks_at 151 150 n chks_1 (by omega) (by omega)
  by_cases h : n < 451
  · exact chks_at 301 150 n chks_2 (by omega) (by omega)
  by_cases h : n < 601
  · exact chks_at 451 150 n chks_3 (by omega) (by omega)
  by_cases h : n < 751
  · exact chks_at 601 150 n chks_4 (by omega) (by omega)
  by_cases h : n < 901
  · exact chks_at 751 150 n chks_5 (by omega) (by omega)
  by_cases h : n < 1051
  · exact chks_at 901 150 n chks_6 (by omega) (by omega)
  by_cases h : n < 1201
  · exact chks_at 1051 150 n chks_7 (by omega) (by omega)
  by_cases h : n < 1351
  · exact chks_at 1201 150 n chks_8 (by omega) (by omega)
  by_cases h : n < 1501
  · exact chks_at 1351 150 n chks_9 (by omega) (by omega)
  by_cases h : n < 1651
  · exact chks_at 1501 150 n chks_10 (by omega) (by omega)
  by_cases h : n < 1801
  · exact chks_at 1651 150 n chks_11 (by omega) (by omega)
  by_cases h : n < 1951
  · exact chks_at 1801 150 n chks_12 (by omega) (by omega)
  by_cases h : n < 2101
  · exact chks_at 1951 150 n chks_13 (by omega) (by omega)
  by_cases h : n < 2251
  · exact chks_at 2101 150 n chks_14 (by omega) (by omega)
  by_cases h : n < 2401
  · exact chks_at 2251 150 n chks_15 (by omega) (by omega)
  by_cases h : n < 2551
  · exact chks_at 2401 150 n chks_16 (by omega) (by omega)
  by_cases h : n < 2701
  · exact chks_at 2551 150 n chks_17 (by omega) (by omega)
  by_cases h : n < 2851
  · exact chks_at 2701 150 n chks_18 (by omega) (by omega)
  by_cases h : n < 3001
  · exact chks_at 2851 150 n chks_19 (by omega) (by omega)
  by_cases h : n < 3100
  · exact chks_at 3001 99 n chks_20 (by omega) (by omega)
  omega
theorem num_ok (n : Nat) (k : Txt) (h1 : 1 ≤ n) (h2 : n ≤ 3099) (hk : isK k) : lawNumF n k = numF n k ∧ valOf (numF n k) k = n ∧ lawValN (numF n k) k = some (n : Int) ∧ (numF n k).length ≤ 20 := by
  have h := chks_ok n h1 h2
  simp only [chk3, Bool.and_eq_true] at h
  obtain ⟨⟨hF, hL⟩, hR⟩ := h
  rcases hk with rfl | rfl | rfl
  · simp only [chkF, Bool.and_eq_true, beq_iff_eq, decide_eq_true_eq] at hF
    exact ⟨rfl, hF.1.1, hF.1.2, hF.2⟩
  · simp only [chk, Bool.and_eq_true, beq_iff_eq, decide_eq_true_eq] at hL
    exact ⟨hL.1.1.1, hL.1.1.2, hL.1.2, hL.2⟩
  · simp only [chk, Bool.and_eq_true, beq_iff_eq, decide_eq_true_eq] at hR
    exact ⟨hR.1.1.1, hR.1.1.2, hR.1.2, hR.2⟩
theorem from_iff (t k : Txt) (v : Nat) (hk : isK k) : numFrom t k = some v ↔ (1 ≤ v ∧ v ≤ 3099 ∧ numF v k = t) := by
  unfold numFrom
  constructor
  · intro h
    split at h
    · cases h
    · split at h
      · cases h; assumption
      · cases h
  · rintro ⟨h1, h2, rfl⟩
    obtain ⟨_, e, _, l⟩ := num_ok v k h1 h2 hk
    rw [if_neg (by omega), e, if_pos ⟨h1, h2, rfl⟩]
theorem law_iff (t k : Txt) (v : Nat) (hk : isK k) : lawVal t k = some v ↔ (1 ≤ v ∧ v ≤ 3099 ∧ numF v k = t) := by
  unfold lawVal
  constructor
  · intro h
    split at h
    · cases h
    · rename_i w e
      split at h
      · rename_i hw
        cases h
        obtain ⟨a, b, c⟩ := hw
        refine ⟨by omega, by omega, ?_⟩
        rw [← (num_ok w.toNat k (by omega) (by omega) hk).1, c]
      · cases h
  · rintro ⟨h1, h2, rfl⟩
    obtain ⟨e0, e, e2, l⟩ := num_ok v k h1 h2 hk
    rw [e2]
    show (if 1 ≤ (v : Int) ∧ (v : Int) ≤ 3099 ∧ lawNumF (v : Int).toNat k = numF v k then some (v : Int).toNat else none) = some v
    rw [Int.toNat_natCast, if_pos ⟨by omega, by omega, e0⟩]
/-- the program's reading and the law's are one, at every text -/
theorem from_law (t k : Txt) (hk : isK k) : numFrom t k = lawVal t k := by
  cases e : numFrom t k with
  | some v => exact ((law_iff t k v hk).2 ((from_iff t k v hk).1 e)).symm
  | none =>
    cases e2 : lawVal t k with
    | none => rfl
    | some v => rw [(from_iff t k v hk).2 ((law_iff t k v hk).1 e2)] at e; cases e
theorem num_inj (a b : Nat) (k : Txt) (hk : isK k) (h1 : 1 ≤ a) (h2 : a ≤ 3099) (h3 : 1 ≤ b) (h4 : b ≤ 3099) (h : numF a k = numF b k) : a = b := by
  have x := (num_ok a k h1 h2 hk).2.1
  rw [h, (num_ok b k h3 h4 hk).2.1] at x
  exact x.symm
end B
end

section
set_option Elab.async false
set_option linter.all false
set_option maxRecDepth 100000
set_option maxHeartbeats 4000000
/-! N3: numerals, walked. -/
namespace B
theorem kk_FF : (kF == [102, 105, 103, 117, 114, 101, 115]) = true := by decide
theorem kk_LF : (kL == [102, 105, 103, 117, 114, 101, 115]) = false := by decide
theorem kk_RF : (kR == [102, 105, 103, 117, 114, 101, 115]) = false := by decide
theorem kk_LL : (kL == [108, 101, 116, 116, 101, 114, 115]) = true := by decide
theorem kk_RL : (kR == [108, 101, 116, 116, 101, 114, 115]) = false := by decide
def pcD (p : Nat × Txt) : D := .tup [.int p.1, .str p.2]
theorem letF_fuel : ∀ f g n a, n ≤ f → n ≤ g → letF f n a = letF g n a
  | 0, 0, n, a, _, _ => rfl
  | 0, g + 1, n, a, h, _ => by simp only [letF]; rw [if_pos (by omega)]
  | f + 1, 0, n, a, _, h => by simp only [letF]; rw [if_pos (by omega)]
  | f + 1, g + 1, n, a, h1, h2 => by
    simp only [letF]
    split
    · rfl
    · exact letF_fuel f g _ _ (by omega) (by omega)
theorem abc_len : abc.length = 26 := rfl
theorem abc_at (i : Int) (h0 : 0 ≤ i) (h1 : i < 26) : atI abc i = some (97 + i.toNat) := by
  obtain ⟨n, rfl⟩ := Int.eq_ofNat_of_zero_le h0
  have hn : n < 26 := by omega
  exact (by decide +kernel : ∀ n : Fin 26, atI abc (n.val : Int) = some (97 + (n.val : Int).toNat)) ⟨n, hn⟩
theorem sl_st1 : ∀ (en : Env) (i : Nat) (x : Slot), i < en.length → sl (st1 en i x) i = some x
  | [], i, _, h => absurd h (Nat.not_lt_zero _)
  | _ :: _, 0, _, _ => rfl
  | _ :: en, i + 1, x, h => by
    rw [st1_s, sl_s]; exact sl_st1 en i x (by simpa using h)
theorem st1_len : ∀ (en : Env) (i : Nat) (x : Slot), (st1 en i x).length = en.length
  | [], _, _ => rfl
  | _ :: _, 0, _ => rfl
  | _ :: en, i + 1, x => by rw [st1_s, List.length_cons, List.length_cons, st1_len en i x]
section
variable (G : Sg) (o : Objs)
/-- signs of a text within another -/
theorem lc_in (i : Nat) (s t : Txt) (en : Env) (hi : i < en.length) : lcGo (lcB G (.op .in_ (.var i) (.str s)) (.one i) .hole en) (t.map fun c => D.str [c]) [] o = .ok (t.map fun c => D.bl (s.contains c)) o := by
  refine lc_walk1 (fun c => D.str [c]) (fun c => D.bl (s.contains c)) t fun c _ => ?_
  have h2 : (decide ((st1 en i Slot.none).length ≤ i)) = false := by
    rw [st1_len]; exact decide_eq_false (by omega)
  have h3 := sl_st1 (st1 en i .none) i (.val ⟨.str [c], .fz⟩) (by rw [st1_len]; exact hi)
  rw [lcB_1, put_fz, h2]
  simp only [List.length_cons, List.length_nil, Nat.reduceAdd, Nat.reduceLeDiff, if_true, List.map_cons, List.map_nil, Nat.reduceSub, List.replicate_succ, List.replicate_zero, List.cons_append, List.nil_append, List.all_cons, List.all_nil, Bool.and_true, Bool.true_and, Bool.and_self, decide_true, decide_false, Bool.false_or, Bool.or_false, List.contains_nil, if_false, Bool.false_eq_true, le_big, nal_fz, nal_fz', nal_ex', E.isHole, run_eq, reduceIte, cnd_bl, sl_0, sl_s, rd_val, rd_own, rd_ownd, pass_fz, pass_ex, pass_al, bind_ok, bind_bad, out_ok, out_bad, seq_next, seq_ret, seq_brk, seq_cnt, seq_bad, ofO_some, ofO_none, ev_var, ev_int, ev_str, ev_bl, ev_non, ev_glb, ev_op, ngI_int, ev_neg, nt_bl, ev_not, ev_and, ev_or, ev_one, ev_ife, oc_bl, ev_chain, ev_call, ev_bi, ev_isi, ev_mt, ev_ix, ev_sl, toI_int, optI_t, optI_f, ev_lst, ev_tup, ev_nil, ev_cons, ss_nil_, ss_cons_, s_set, s_own, s_par, s_ife, s_for, s_whl, s_drop, s_app, obE_s, loop_1, loop_m, s_ret, s_retN, s_nev, s_brk, s_cnt, s_pass, outO_some, outO_none, lk_nil, lk_cons, st1_0, st1_s, put_fz, put_ex, put_own, putV_nil, putV_cons, putA_nil, putA_cons, fin_next, fin_ret, fin_bad, nal_fz, nal_ex, nal_fz, nal_ex, add_ii, sub_ii, lt_ii, le_ii, gt_ii, ge_ii, is_n, isNot_n, eq_ss, ne_ss, eq_ii, ne_ii, eq_ns, in_ss, notIn_ss, kd_add_i, kd_add_s, kd_add_l, kd_mul_i, kd_sub, kd_fdiv, kd_mod, kd_pow, kd_lt, kd_le, kd_gt, kd_ge, kd_eq, kd_ne, kd_is, kd_isn, kd_in, kd_nin, ix_l, ix_t, ix_scr, map_some_, map_none_, bindO_some, bindO_none, it_any, it_A_t, it_A_s, it_A_l, it_L_fz, it_L_ex, it_L_al, it_r1, it_r2, it_r3, it_enum, it_zip, it_zip3, it_zipA, it_Z_s, it_Z_l, ev_lc, lc_fr_n, lc_fr_v, lc_free, lc_tgIx_1, lc_tgIx_m, obE_R, lc_optK_t, lc_optK_f, lc_noExc_ok, lc_noExc_bad, lc_noExc_exc, lcB_1, lcB_2, lcB_3, isO_own, isO_y, onO_eq, onO_s, bi_len_l, bi_len_scr, bi_len_t, bi_abs, bi_all, bi_any, bi_list, bi_tuple, ix_sl_l, ix_sl_scr, ix_d, ev_dlit, put_ownd, kd_mul_s, kd_mul_l, kd_mul_t, kd_inQ, kd_notInQ, kd_addS, kd_addL, isNon_n, isN_bl, isN_int, isN_str, isN_lst, isN_tup, ty_int_n, ty_int_b, ty_int_i, ty_int_s, ty_int_l, ty_int_t, ty_int_scr, ty_int_d, ty_str_n, ty_str_b, ty_str_i, ty_str_s, ty_str_l, ty_str_t, ty_str_scr, ty_str_d, ty_bool_n, ty_bool_b, ty_bool_i, ty_bool_s, ty_bool_l, ty_bool_t, ty_bool_scr, ty_bool_d, ty_list_n, ty_list_b, ty_list_i, ty_list_s, ty_list_l, ty_list_t, ty_list_scr, ty_list_d, ty_tuple_n, ty_tuple_b, ty_tuple_i, ty_tuple_s, ty_tuple_l, ty_tuple_t, ty_tuple_scr, ty_tuple_d, mtr_split, mtr_join, mtr_starts, mtr_lstrip, mtr_indexS, mtr_indexL, mtr_count, mtr_get1, mtr_get2, eq_nn_, ne_nn_, eq_nb_, ne_nb_, eq_ni_, ne_ni_, eq_bn_, ne_bn_, eq_bb_, ne_bb_, eq_bi_, ne_bi_, eq_bs_, ne_bs_, eq_in_, ne_in_, eq_ib_, ne_ib_, eq_is_, ne_is_, eq_sn_, ne_sn_, eq_sb_, ne_sb_, eq_si_, ne_si_, ne_ns_, c_mul, c_fdiv, c_mod, c_pow, c_adds, c_addl, c_ixs, lt600, lt60, lt1000, c_rng1, c_rng2, c_rng3, c_len, c_str, c_int, c_starts, c_indexS, c_sls, Nat.reduceLT, Int.reduceLT, Int.reduceLE, Int.reduceNeg, Int.reduceToNat, Int.reducePow, Int.reduceMul, Int.reduceAdd, Int.reduceSub, Bool.not_true, Bool.not_false, It.slots, E.slot, Nat.reduceBEq, Sc.d, Int.reduceEq, Nat.reduceEqDiff, h3]
theorem all_id {α : Type} (p : α → Bool) (xs : List α) : (xs.map p).all id = xs.all p := by
  rw [List.all_map]; rfl
theorem w1F (k : Kd) (n : Nat) (hn : n ≤ 100000) : runDef G b_numeral_of 5 [⟨.int n, .fz⟩, ⟨.str kF, .fz⟩] o = .ok ⟨.str (figs n), .fz⟩ o := by
  unfold b_numeral_of
  have h1 : (n : Int).natAbs < 2 ^ 1000 := Nat.lt_of_le_of_lt (m := 100000) (by omega) (by decide)
  have h2 : strI (n : Int) = figs n := by
    unfold strI
    rw [if_neg (by omega)]; rfl
  simp only [List.length_cons, List.length_nil, Nat.reduceAdd, Nat.reduceLeDiff, if_true, List.map_cons, List.map_nil, Nat.reduceSub, List.replicate_succ, List.replicate_zero, List.cons_append, List.nil_append, List.all_cons, List.all_nil, Bool.and_true, Bool.true_and, Bool.and_self, decide_true, decide_false, Bool.false_or, Bool.or_false, List.contains_nil, if_false, Bool.false_eq_true, le_big, nal_fz, nal_fz', nal_ex', E.isHole, run_eq, reduceIte, cnd_bl, sl_0, sl_s, rd_val, rd_own, rd_ownd, pass_fz, pass_ex, pass_al, bind_ok, bind_bad, out_ok, out_bad, seq_next, seq_ret, seq_brk, seq_cnt, seq_bad, ofO_some, ofO_none, ev_var, ev_int, ev_str, ev_bl, ev_non, ev_glb, ev_op, ngI_int, ev_neg, nt_bl, ev_not, ev_and, ev_or, ev_one, ev_ife, oc_bl, ev_chain, ev_call, ev_bi, ev_isi, ev_mt, ev_ix, ev_sl, toI_int, optI_t, optI_f, ev_lst, ev_tup, ev_nil, ev_cons, ss_nil_, ss_cons_, s_set, s_own, s_par, s_ife, s_for, s_whl, s_drop, s_app, obE_s, loop_1, loop_m, s_ret, s_retN, s_nev, s_brk, s_cnt, s_pass, outO_some, outO_none, lk_nil, lk_cons, st1_0, st1_s, put_fz, put_ex, put_own, putV_nil, putV_cons, putA_nil, putA_cons, fin_next, fin_ret, fin_bad, nal_fz, nal_ex, nal_fz, nal_ex, add_ii, sub_ii, lt_ii, le_ii, gt_ii, ge_ii, is_n, isNot_n, eq_ss, ne_ss, eq_ii, ne_ii, eq_ns, in_ss, notIn_ss, kd_add_i, kd_add_s, kd_add_l, kd_mul_i, kd_sub, kd_fdiv, kd_mod, kd_pow, kd_lt, kd_le, kd_gt, kd_ge, kd_eq, kd_ne, kd_is, kd_isn, kd_in, kd_nin, ix_l, ix_t, ix_scr, map_some_, map_none_, bindO_some, bindO_none, it_any, it_A_t, it_A_s, it_A_l, it_L_fz, it_L_ex, it_L_al, it_r1, it_r2, it_r3, it_enum, it_zip, it_zip3, it_zipA, it_Z_s, it_Z_l, ev_lc, lc_fr_n, lc_fr_v, lc_free, lc_tgIx_1, lc_tgIx_m, obE_R, lc_optK_t, lc_optK_f, lc_noExc_ok, lc_noExc_bad, lc_noExc_exc, lcB_1, lcB_2, lcB_3, isO_own, isO_y, onO_eq, onO_s, bi_len_l, bi_len_scr, bi_len_t, bi_abs, bi_all, bi_any, bi_list, bi_tuple, ix_sl_l, ix_sl_scr, ix_d, ev_dlit, put_ownd, kd_mul_s, kd_mul_l, kd_mul_t, kd_inQ, kd_notInQ, kd_addS, kd_addL, isNon_n, isN_bl, isN_int, isN_str, isN_lst, isN_tup, ty_int_n, ty_int_b, ty_int_i, ty_int_s, ty_int_l, ty_int_t, ty_int_scr, ty_int_d, ty_str_n, ty_str_b, ty_str_i, ty_str_s, ty_str_l, ty_str_t, ty_str_scr, ty_str_d, ty_bool_n, ty_bool_b, ty_bool_i, ty_bool_s, ty_bool_l, ty_bool_t, ty_bool_scr, ty_bool_d, ty_list_n, ty_list_b, ty_list_i, ty_list_s, ty_list_l, ty_list_t, ty_list_scr, ty_list_d, ty_tuple_n, ty_tuple_b, ty_tuple_i, ty_tuple_s, ty_tuple_l, ty_tuple_t, ty_tuple_scr, ty_tuple_d, mtr_split, mtr_join, mtr_starts, mtr_lstrip, mtr_indexS, mtr_indexL, mtr_count, mtr_get1, mtr_get2, eq_nn_, ne_nn_, eq_nb_, ne_nb_, eq_ni_, ne_ni_, eq_bn_, ne_bn_, eq_bb_, ne_bb_, eq_bi_, ne_bi_, eq_bs_, ne_bs_, eq_in_, ne_in_, eq_ib_, ne_ib_, eq_is_, ne_is_, eq_sn_, ne_sn_, eq_sb_, ne_sb_, eq_si_, ne_si_, ne_ns_, c_mul, c_fdiv, c_mod, c_pow, c_adds, c_addl, c_ixs, lt600, lt60, lt1000, c_rng1, c_rng2, c_rng3, c_len, c_str, c_int, c_starts, c_indexS, c_sls, Nat.reduceLT, Int.reduceLT, Int.reduceLE, Int.reduceNeg, Int.reduceToNat, Int.reducePow, Int.reduceMul, Int.reduceAdd, Int.reduceSub, Bool.not_true, Bool.not_false, It.slots, E.slot, Nat.reduceBEq, Sc.d, Int.reduceEq, Nat.reduceEqDiff, kk_FF, h1, h2]
theorem w1L (hc : G.ct 2 = .str abc) (n : Nat) (hn : n ≤ 50000) : runDef G b_numeral_of 5 [⟨.int n, .fz⟩, ⟨.str kL, .fz⟩] o = .ok ⟨.str (letF n n []), .fz⟩ o := by
  unfold b_numeral_of
  simp only [List.length_cons, List.length_nil, Nat.reduceAdd, Nat.reduceLeDiff, if_true, List.map_cons, List.map_nil, Nat.reduceSub, List.replicate_succ, List.replicate_zero, List.cons_append, List.nil_append, List.all_cons, List.all_nil, Bool.and_true, Bool.true_and, Bool.and_self, decide_true, decide_false, Bool.false_or, Bool.or_false, List.contains_nil, if_false, Bool.false_eq_true, le_big, nal_fz, nal_fz', nal_ex', E.isHole, run_eq, reduceIte, cnd_bl, sl_0, sl_s, rd_val, rd_own, rd_ownd, pass_fz, pass_ex, pass_al, bind_ok, bind_bad, out_ok, out_bad, seq_next, seq_ret, seq_brk, seq_cnt, seq_bad, ofO_some, ofO_none, ev_var, ev_int, ev_str, ev_bl, ev_non, ev_glb, ev_op, ngI_int, ev_neg, nt_bl, ev_not, ev_and, ev_or, ev_one, ev_ife, oc_bl, ev_chain, ev_call, ev_bi, ev_isi, ev_mt, ev_ix, ev_sl, toI_int, optI_t, optI_f, ev_lst, ev_tup, ev_nil, ev_cons, ss_nil_, ss_cons_, s_set, s_own, s_par, s_ife, s_for, s_whl, s_drop, s_app, obE_s, loop_1, loop_m, s_ret, s_retN, s_nev, s_brk, s_cnt, s_pass, outO_some, outO_none, lk_nil, lk_cons, st1_0, st1_s, put_fz, put_ex, put_own, putV_nil, putV_cons, putA_nil, putA_cons, fin_next, fin_ret, fin_bad, nal_fz, nal_ex, nal_fz, nal_ex, add_ii, sub_ii, lt_ii, le_ii, gt_ii, ge_ii, is_n, isNot_n, eq_ss, ne_ss, eq_ii, ne_ii, eq_ns, in_ss, notIn_ss, kd_add_i, kd_add_s, kd_add_l, kd_mul_i, kd_sub, kd_fdiv, kd_mod, kd_pow, kd_lt, kd_le, kd_gt, kd_ge, kd_eq, kd_ne, kd_is, kd_isn, kd_in, kd_nin, ix_l, ix_t, ix_scr, map_some_, map_none_, bindO_some, bindO_none, it_any, it_A_t, it_A_s, it_A_l, it_L_fz, it_L_ex, it_L_al, it_r1, it_r2, it_r3, it_enum, it_zip, it_zip3, it_zipA, it_Z_s, it_Z_l, ev_lc, lc_fr_n, lc_fr_v, lc_free, lc_tgIx_1, lc_tgIx_m, obE_R, lc_optK_t, lc_optK_f, lc_noExc_ok, lc_noExc_bad, lc_noExc_exc, lcB_1, lcB_2, lcB_3, isO_own, isO_y, onO_eq, onO_s, bi_len_l, bi_len_scr, bi_len_t, bi_abs, bi_all, bi_any, bi_list, bi_tuple, ix_sl_l, ix_sl_scr, ix_d, ev_dlit, put_ownd, kd_mul_s, kd_mul_l, kd_mul_t, kd_inQ, kd_notInQ, kd_addS, kd_addL, isNon_n, isN_bl, isN_int, isN_str, isN_lst, isN_tup, ty_int_n, ty_int_b, ty_int_i, ty_int_s, ty_int_l, ty_int_t, ty_int_scr, ty_int_d, ty_str_n, ty_str_b, ty_str_i, ty_str_s, ty_str_l, ty_str_t, ty_str_scr, ty_str_d, ty_bool_n, ty_bool_b, ty_bool_i, ty_bool_s, ty_bool_l, ty_bool_t, ty_bool_scr, ty_bool_d, ty_list_n, ty_list_b, ty_list_i, ty_list_s, ty_list_l, ty_list_t, ty_list_scr, ty_list_d, ty_tuple_n, ty_tuple_b, ty_tuple_i, ty_tuple_s, ty_tuple_l, ty_tuple_t, ty_tuple_scr, ty_tuple_d, mtr_split, mtr_join, mtr_starts, mtr_lstrip, mtr_indexS, mtr_indexL, mtr_count, mtr_get1, mtr_get2, eq_nn_, ne_nn_, eq_nb_, ne_nb_, eq_ni_, ne_ni_, eq_bn_, ne_bn_, eq_bb_, ne_bb_, eq_bi_, ne_bi_, eq_bs_, ne_bs_, eq_in_, ne_in_, eq_ib_, ne_ib_, eq_is_, ne_is_, eq_sn_, ne_sn_, eq_sb_, ne_sb_, eq_si_, ne_si_, ne_ns_, c_mul, c_fdiv, c_mod, c_pow, c_adds, c_addl, c_ixs, lt600, lt60, lt1000, c_rng1, c_rng2, c_rng3, c_len, c_str, c_int, c_starts, c_indexS, c_sls, Nat.reduceLT, Int.reduceLT, Int.reduceLE, Int.reduceNeg, Int.reduceToNat, Int.reducePow, Int.reduceMul, Int.reduceAdd, Int.reduceSub, Bool.not_true, Bool.not_false, It.slots, E.slot, Nat.reduceBEq, Sc.d, Int.reduceEq, Nat.reduceEqDiff, kk_LF, kk_LL]
  refine whl_walk (fun q en o' => o' = o ∧ ∃ a s3 s4, en = [.val ⟨.int q, .fz⟩, .val ⟨.str kL, .fz⟩, .val ⟨.str a, .fz⟩, s3, s4] ∧ letF q q a = letF n n [] ∧ a.length + q ≤ 100000) (fun x => fin (Out.seq (x.seq _) _) = _) ?_ 100000 n _ _ (by omega) ⟨rfl, _, _, _, rfl, rfl, by simp; omega⟩
  rintro q en o' ⟨rfl, a, s3, s4, rfl, h1, h2⟩
  refine ⟨decide (0 < (q : Int)), .fz, by simp only [List.length_cons, List.length_nil, Nat.reduceAdd, Nat.reduceLeDiff, if_true, List.map_cons, List.map_nil, Nat.reduceSub, List.replicate_succ, List.replicate_zero, List.cons_append, List.nil_append, List.all_cons, List.all_nil, Bool.and_true, Bool.true_and, Bool.and_self, decide_true, decide_false, Bool.false_or, Bool.or_false, List.contains_nil, if_false, Bool.false_eq_true, le_big, nal_fz, nal_fz', nal_ex', E.isHole, run_eq, reduceIte, cnd_bl, sl_0, sl_s, rd_val, rd_own, rd_ownd, pass_fz, pass_ex, pass_al, bind_ok, bind_bad, out_ok, out_bad, seq_next, seq_ret, seq_brk, seq_cnt, seq_bad, ofO_some, ofO_none, ev_var, ev_int, ev_str, ev_bl, ev_non, ev_glb, ev_op, ngI_int, ev_neg, nt_bl, ev_not, ev_and, ev_or, ev_one, ev_ife, oc_bl, ev_chain, ev_call, ev_bi, ev_isi, ev_mt, ev_ix, ev_sl, toI_int, optI_t, optI_f, ev_lst, ev_tup, ev_nil, ev_cons, ss_nil_, ss_cons_, s_set, s_own, s_par, s_ife, s_for, s_whl, s_drop, s_app, obE_s, loop_1, loop_m, s_ret, s_retN, s_nev, s_brk, s_cnt, s_pass, outO_some, outO_none, lk_nil, lk_cons, st1_0, st1_s, put_fz, put_ex, put_own, putV_nil, putV_cons, putA_nil, putA_cons, fin_next, fin_ret, fin_bad, nal_fz, nal_ex, nal_fz, nal_ex, add_ii, sub_ii, lt_ii, le_ii, gt_ii, ge_ii, is_n, isNot_n, eq_ss, ne_ss, eq_ii, ne_ii, eq_ns, in_ss, notIn_ss, kd_add_i, kd_add_s, kd_add_l, kd_mul_i, kd_sub, kd_fdiv, kd_mod, kd_pow, kd_lt, kd_le, kd_gt, kd_ge, kd_eq, kd_ne, kd_is, kd_isn, kd_in, kd_nin, ix_l, ix_t, ix_scr, map_some_, map_none_, bindO_some, bindO_none, it_any, it_A_t, it_A_s, it_A_l, it_L_fz, it_L_ex, it_L_al, it_r1, it_r2, it_r3, it_enum, it_zip, it_zip3, it_zipA, it_Z_s, it_Z_l, ev_lc, lc_fr_n, lc_fr_v, lc_free, lc_tgIx_1, lc_tgIx_m, obE_R, lc_optK_t, lc_optK_f, lc_noExc_ok, lc_noExc_bad, lc_noExc_exc, lcB_1, lcB_2, lcB_3, isO_own, isO_y, onO_eq, onO_s, bi_len_l, bi_len_scr, bi_len_t, bi_abs, bi_all, bi_any, bi_list, bi_tuple, ix_sl_l, ix_sl_scr, ix_d, ev_dlit, put_ownd, kd_mul_s, kd_mul_l, kd_mul_t, kd_inQ, kd_notInQ, kd_addS, kd_addL, isNon_n, isN_bl, isN_int, isN_str, isN_lst, isN_tup, ty_int_n, ty_int_b, ty_int_i, ty_int_s, ty_int_l, ty_int_t, ty_int_scr, ty_int_d, ty_str_n, ty_str_b, ty_str_i, ty_str_s, ty_str_l, ty_str_t, ty_str_scr, ty_str_d, ty_bool_n, ty_bool_b, ty_bool_i, ty_bool_s, ty_bool_l, ty_bool_t, ty_bool_scr, ty_bool_d, ty_list_n, ty_list_b, ty_list_i, ty_list_s, ty_list_l, ty_list_t, ty_list_scr, ty_list_d, ty_tuple_n, ty_tuple_b, ty_tuple_i, ty_tuple_s, ty_tuple_l, ty_tuple_t, ty_tuple_scr, ty_tuple_d, mtr_split, mtr_join, mtr_starts, mtr_lstrip, mtr_indexS, mtr_indexL, mtr_count, mtr_get1, mtr_get2, eq_nn_, ne_nn_, eq_nb_, ne_nb_, eq_ni_, ne_ni_, eq_bn_, ne_bn_, eq_bb_, ne_bb_, eq_bi_, ne_bi_, eq_bs_, ne_bs_, eq_in_, ne_in_, eq_ib_, ne_ib_, eq_is_, ne_is_, eq_sn_, ne_sn_, eq_sb_, ne_sb_, eq_si_, ne_si_, ne_ns_, c_mul, c_fdiv, c_mod, c_pow, c_adds, c_addl, c_ixs, lt600, lt60, lt1000, c_rng1, c_rng2, c_rng3, c_len, c_str, c_int, c_starts, c_indexS, c_sls, Nat.reduceLT, Int.reduceLT, Int.reduceLE, Int.reduceNeg, Int.reduceToNat, Int.reducePow, Int.reduceMul, Int.reduceAdd, Int.reduceSub, Bool.not_true, Bool.not_false, It.slots, E.slot, Nat.reduceBEq, Sc.d, Int.reduceEq, Nat.reduceEqDiff], ?_⟩
  by_cases hq : 0 < q
  · have hq' : decide (0 < (q : Int)) = true := decide_eq_true (by omega)
    rw [if_pos hq']
    have e0 : ((q : Int) - 1) = ((q - 1 : Nat) : Int) := by omega
    have e1 : ((q : Int) - 1) % 26 = (((q - 1) % 26 : Nat) : Int) := by omega
    have e2 : ((q : Int) - 1) / 26 = (((q - 1) / 26 : Nat) : Int) := by omega
    have e3 := abc_at ((((q - 1) % 26 : Nat) : Int)) (by omega) (by omega)
    rw [Int.toNat_natCast] at e3
    have e4 : Op.add.ev (.str [97 + (q - 1) % 26]) (.str a) = some (.str ((97 + (q - 1) % 26) :: a)) := c_adds (by show 1 + a.length ≤ 1000000; omega)
    have e5 : ixEv (.str abc) (.int (((q - 1) % 26 : Nat) : Int)) = some ⟨.str [97 + (q - 1) % 26], .fz⟩ := by
      rw [c_ixs (show abc.length ≤ bigL by decide), e3]; rfl
    simp only [List.length_cons, List.length_nil, Nat.reduceAdd, Nat.reduceLeDiff, if_true, List.map_cons, List.map_nil, Nat.reduceSub, List.replicate_succ, List.replicate_zero, List.cons_append, List.nil_append, List.all_cons, List.all_nil, Bool.and_true, Bool.true_and, Bool.and_self, decide_true, decide_false, Bool.false_or, Bool.or_false, List.contains_nil, if_false, Bool.false_eq_true, le_big, nal_fz, nal_fz', nal_ex', E.isHole, run_eq, reduceIte, cnd_bl, sl_0, sl_s, rd_val, rd_own, rd_ownd, pass_fz, pass_ex, pass_al, bind_ok, bind_bad, out_ok, out_bad, seq_next, seq_ret, seq_brk, seq_cnt, seq_bad, ofO_some, ofO_none, ev_var, ev_int, ev_str, ev_bl, ev_non, ev_glb, ev_op, ngI_int, ev_neg, nt_bl, ev_not, ev_and, ev_or, ev_one, ev_ife, oc_bl, ev_chain, ev_call, ev_bi, ev_isi, ev_mt, ev_ix, ev_sl, toI_int, optI_t, optI_f, ev_lst, ev_tup, ev_nil, ev_cons, ss_nil_, ss_cons_, s_set, s_own, s_par, s_ife, s_for, s_whl, s_drop, s_app, obE_s, loop_1, loop_m, s_ret, s_retN, s_nev, s_brk, s_cnt, s_pass, outO_some, outO_none, lk_nil, lk_cons, st1_0, st1_s, put_fz, put_ex, put_own, putV_nil, putV_cons, putA_nil, putA_cons, fin_next, fin_ret, fin_bad, nal_fz, nal_ex, nal_fz, nal_ex, add_ii, sub_ii, lt_ii, le_ii, gt_ii, ge_ii, is_n, isNot_n, eq_ss, ne_ss, eq_ii, ne_ii, eq_ns, in_ss, notIn_ss, kd_add_i, kd_add_s, kd_add_l, kd_mul_i, kd_sub, kd_fdiv, kd_mod, kd_pow, kd_lt, kd_le, kd_gt, kd_ge, kd_eq, kd_ne, kd_is, kd_isn, kd_in, kd_nin, ix_l, ix_t, ix_scr, map_some_, map_none_, bindO_some, bindO_none, it_any, it_A_t, it_A_s, it_A_l, it_L_fz, it_L_ex, it_L_al, it_r1, it_r2, it_r3, it_enum, it_zip, it_zip3, it_zipA, it_Z_s, it_Z_l, ev_lc, lc_fr_n, lc_fr_v, lc_free, lc_tgIx_1, lc_tgIx_m, obE_R, lc_optK_t, lc_optK_f, lc_noExc_ok, lc_noExc_bad, lc_noExc_exc, lcB_1, lcB_2, lcB_3, isO_own, isO_y, onO_eq, onO_s, bi_len_l, bi_len_scr, bi_len_t, bi_abs, bi_all, bi_any, bi_list, bi_tuple, ix_sl_l, ix_sl_scr, ix_d, ev_dlit, put_ownd, kd_mul_s, kd_mul_l, kd_mul_t, kd_inQ, kd_notInQ, kd_addS, kd_addL, isNon_n, isN_bl, isN_int, isN_str, isN_lst, isN_tup, ty_int_n, ty_int_b, ty_int_i, ty_int_s, ty_int_l, ty_int_t, ty_int_scr, ty_int_d, ty_str_n, ty_str_b, ty_str_i, ty_str_s, ty_str_l, ty_str_t, ty_str_scr, ty_str_d, ty_bool_n, ty_bool_b, ty_bool_i, ty_bool_s, ty_bool_l, ty_bool_t, ty_bool_scr, ty_bool_d, ty_list_n, ty_list_b, ty_list_i, ty_list_s, ty_list_l, ty_list_t, ty_list_scr, ty_list_d, ty_tuple_n, ty_tuple_b, ty_tuple_i, ty_tuple_s, ty_tuple_l, ty_tuple_t, ty_tuple_scr, ty_tuple_d, mtr_split, mtr_join, mtr_starts, mtr_lstrip, mtr_indexS, mtr_indexL, mtr_count, mtr_get1, mtr_get2, eq_nn_, ne_nn_, eq_nb_, ne_nb_, eq_ni_, ne_ni_, eq_bn_, ne_bn_, eq_bb_, ne_bb_, eq_bi_, ne_bi_, eq_bs_, ne_bs_, eq_in_, ne_in_, eq_ib_, ne_ib_, eq_is_, ne_is_, eq_sn_, ne_sn_, eq_sb_, ne_sb_, eq_si_, ne_si_, ne_ns_, c_mul, c_fdiv, c_mod, c_pow, c_adds, c_addl, c_ixs, lt600, lt60, lt1000, c_rng1, c_rng2, c_rng3, c_len, c_str, c_int, c_starts, c_indexS, c_sls, Nat.reduceLT, Int.reduceLT, Int.reduceLE, Int.reduceNeg, Int.reduceToNat, Int.reducePow, Int.reduceMul, Int.reduceAdd, Int.reduceSub, Bool.not_true, Bool.not_false, It.slots, E.slot, Nat.reduceBEq, Sc.d, Int.reduceEq, Nat.reduceEqDiff, hc, e1, e2, e5, e4]
    refine ⟨(q - 1) / 26, by omega, rfl, _, _, _, rfl, ?_, by simp only [List.length_cons]; omega⟩
    rw [← h1]
    obtain ⟨p, rfl⟩ : ∃ p, q = p + 1 := ⟨q - 1, by omega⟩
    conv => rhs; unfold letF
    rw [if_neg (by omega)]
    exact letF_fuel _ _ _ _ (Nat.le_refl _) (by omega)
  · have hq' : decide (0 < (q : Int)) = false := decide_eq_false (by omega)
    have : q = 0 := by omega
    subst this
    rw [if_neg (by rw [hq']; decide)]
    have h1 : a = letF n n [] := h1
    simp only [List.length_cons, List.length_nil, Nat.reduceAdd, Nat.reduceLeDiff, if_true, List.map_cons, List.map_nil, Nat.reduceSub, List.replicate_succ, List.replicate_zero, List.cons_append, List.nil_append, List.all_cons, List.all_nil, Bool.and_true, Bool.true_and, Bool.and_self, decide_true, decide_false, Bool.false_or, Bool.or_false, List.contains_nil, if_false, Bool.false_eq_true, le_big, nal_fz, nal_fz', nal_ex', E.isHole, run_eq, reduceIte, cnd_bl, sl_0, sl_s, rd_val, rd_own, rd_ownd, pass_fz, pass_ex, pass_al, bind_ok, bind_bad, out_ok, out_bad, seq_next, seq_ret, seq_brk, seq_cnt, seq_bad, ofO_some, ofO_none, ev_var, ev_int, ev_str, ev_bl, ev_non, ev_glb, ev_op, ngI_int, ev_neg, nt_bl, ev_not, ev_and, ev_or, ev_one, ev_ife, oc_bl, ev_chain, ev_call, ev_bi, ev_isi, ev_mt, ev_ix, ev_sl, toI_int, optI_t, optI_f, ev_lst, ev_tup, ev_nil, ev_cons, ss_nil_, ss_cons_, s_set, s_own, s_par, s_ife, s_for, s_whl, s_drop, s_app, obE_s, loop_1, loop_m, s_ret, s_retN, s_nev, s_brk, s_cnt, s_pass, outO_some, outO_none, lk_nil, lk_cons, st1_0, st1_s, put_fz, put_ex, put_own, putV_nil, putV_cons, putA_nil, putA_cons, fin_next, fin_ret, fin_bad, nal_fz, nal_ex, nal_fz, nal_ex, add_ii, sub_ii, lt_ii, le_ii, gt_ii, ge_ii, is_n, isNot_n, eq_ss, ne_ss, eq_ii, ne_ii, eq_ns, in_ss, notIn_ss, kd_add_i, kd_add_s, kd_add_l, kd_mul_i, kd_sub, kd_fdiv, kd_mod, kd_pow, kd_lt, kd_le, kd_gt, kd_ge, kd_eq, kd_ne, kd_is, kd_isn, kd_in, kd_nin, ix_l, ix_t, ix_scr, map_some_, map_none_, bindO_some, bindO_none, it_any, it_A_t, it_A_s, it_A_l, it_L_fz, it_L_ex, it_L_al, it_r1, it_r2, it_r3, it_enum, it_zip, it_zip3, it_zipA, it_Z_s, it_Z_l, ev_lc, lc_fr_n, lc_fr_v, lc_free, lc_tgIx_1, lc_tgIx_m, obE_R, lc_optK_t, lc_optK_f, lc_noExc_ok, lc_noExc_bad, lc_noExc_exc, lcB_1, lcB_2, lcB_3, isO_own, isO_y, onO_eq, onO_s, bi_len_l, bi_len_scr, bi_len_t, bi_abs, bi_all, bi_any, bi_list, bi_tuple, ix_sl_l, ix_sl_scr, ix_d, ev_dlit, put_ownd, kd_mul_s, kd_mul_l, kd_mul_t, kd_inQ, kd_notInQ, kd_addS, kd_addL, isNon_n, isN_bl, isN_int, isN_str, isN_lst, isN_tup, ty_int_n, ty_int_b, ty_int_i, ty_int_s, ty_int_l, ty_int_t, ty_int_scr, ty_int_d, ty_str_n, ty_str_b, ty_str_i, ty_str_s, ty_str_l, ty_str_t, ty_str_scr, ty_str_d, ty_bool_n, ty_bool_b, ty_bool_i, ty_bool_s, ty_bool_l, ty_bool_t, ty_bool_scr, ty_bool_d, ty_list_n, ty_list_b, ty_list_i, ty_list_s, ty_list_l, ty_list_t, ty_list_scr, ty_list_d, ty_tuple_n, ty_tuple_b, ty_tuple_i, ty_tuple_s, ty_tuple_l, ty_tuple_t, ty_tuple_scr, ty_tuple_d, mtr_split, mtr_join, mtr_starts, mtr_lstrip, mtr_indexS, mtr_indexL, mtr_count, mtr_get1, mtr_get2, eq_nn_, ne_nn_, eq_nb_, ne_nb_, eq_ni_, ne_ni_, eq_bn_, ne_bn_, eq_bb_, ne_bb_, eq_bi_, ne_bi_, eq_bs_, ne_bs_, eq_in_, ne_in_, eq_ib_, ne_ib_, eq_is_, ne_is_, eq_sn_, ne_sn_, eq_sb_, ne_sb_, eq_si_, ne_si_, ne_ns_, c_mul, c_fdiv, c_mod, c_pow, c_adds, c_addl, c_ixs, lt600, lt60, lt1000, c_rng1, c_rng2, c_rng3, c_len, c_str, c_int, c_starts, c_indexS, c_sls, Nat.reduceLT, Int.reduceLT, Int.reduceLE, Int.reduceNeg, Int.reduceToNat, Int.reducePow, Int.reduceMul, Int.reduceAdd, Int.reduceSub, Bool.not_true, Bool.not_false, It.slots, E.slot, Nat.reduceBEq, Sc.d, Int.reduceEq, Nat.reduceEqDiff, h1]
theorem rom_step (w : Nat) (p : Txt) (r : List (Nat × Txt)) (m : Nat) (a : Txt) (hw : 0 < w) (h : w ≤ m) : romF ((w, p) :: r) (m - w) (a ++ p) = romF ((w, p) :: r) m a := by
  obtain ⟨n, rfl⟩ : ∃ n, m = n + w := ⟨m - w, by omega⟩
  show romF r _ _ = romF r _ _
  rw [Nat.add_sub_cancel, Nat.add_mod_right, Nat.add_div_right _ hw, List.replicate_succ, List.flatten_cons, List.append_assoc]
def okP (p : Nat × Txt) : Bool := decide (0 < p.1) && decide (p.2.length ≤ 2) && decide (p.2 ≠ [])
theorem w1R (hc : G.ct 3 = .tup (pieces.map pcD)) (n : Nat) (hn : n ≤ 50000) : runDef G b_numeral_of 5 [⟨.int n, .fz⟩, ⟨.str kR, .fz⟩] o = .ok ⟨.str (romF pieces n []), .fz⟩ o := by
  unfold b_numeral_of
  simp only [List.length_cons, List.length_nil, Nat.reduceAdd, Nat.reduceLeDiff, if_true, List.map_cons, List.map_nil, Nat.reduceSub, List.replicate_succ, List.replicate_zero, List.cons_append, List.nil_append, List.all_cons, List.all_nil, Bool.and_true, Bool.true_and, Bool.and_self, decide_true, decide_false, Bool.false_or, Bool.or_false, List.contains_nil, if_false, Bool.false_eq_true, le_big, nal_fz, nal_fz', nal_ex', E.isHole, run_eq, reduceIte, cnd_bl, sl_0, sl_s, rd_val, rd_own, rd_ownd, pass_fz, pass_ex, pass_al, bind_ok, bind_bad, out_ok, out_bad, seq_next, seq_ret, seq_brk, seq_cnt, seq_bad, ofO_some, ofO_none, ev_var, ev_int, ev_str, ev_bl, ev_non, ev_glb, ev_op, ngI_int, ev_neg, nt_bl, ev_not, ev_and, ev_or, ev_one, ev_ife, oc_bl, ev_chain, ev_call, ev_bi, ev_isi, ev_mt, ev_ix, ev_sl, toI_int, optI_t, optI_f, ev_lst, ev_tup, ev_nil, ev_cons, ss_nil_, ss_cons_, s_set, s_own, s_par, s_ife, s_for, s_whl, s_drop, s_app, obE_s, loop_1, loop_m, s_ret, s_retN, s_nev, s_brk, s_cnt, s_pass, outO_some, outO_none, lk_nil, lk_cons, st1_0, st1_s, put_fz, put_ex, put_own, putV_nil, putV_cons, putA_nil, putA_cons, fin_next, fin_ret, fin_bad, nal_fz, nal_ex, nal_fz, nal_ex, add_ii, sub_ii, lt_ii, le_ii, gt_ii, ge_ii, is_n, isNot_n, eq_ss, ne_ss, eq_ii, ne_ii, eq_ns, in_ss, notIn_ss, kd_add_i, kd_add_s, kd_add_l, kd_mul_i, kd_sub, kd_fdiv, kd_mod, kd_pow, kd_lt, kd_le, kd_gt, kd_ge, kd_eq, kd_ne, kd_is, kd_isn, kd_in, kd_nin, ix_l, ix_t, ix_scr, map_some_, map_none_, bindO_some, bindO_none, it_any, it_A_t, it_A_s, it_A_l, it_L_fz, it_L_ex, it_L_al, it_r1, it_r2, it_r3, it_enum, it_zip, it_zip3, it_zipA, it_Z_s, it_Z_l, ev_lc, lc_fr_n, lc_fr_v, lc_free, lc_tgIx_1, lc_tgIx_m, obE_R, lc_optK_t, lc_optK_f, lc_noExc_ok, lc_noExc_bad, lc_noExc_exc, lcB_1, lcB_2, lcB_3, isO_own, isO_y, onO_eq, onO_s, bi_len_l, bi_len_scr, bi_len_t, bi_abs, bi_all, bi_any, bi_list, bi_tuple, ix_sl_l, ix_sl_scr, ix_d, ev_dlit, put_ownd, kd_mul_s, kd_mul_l, kd_mul_t, kd_inQ, kd_notInQ, kd_addS, kd_addL, isNon_n, isN_bl, isN_int, isN_str, isN_lst, isN_tup, ty_int_n, ty_int_b, ty_int_i, ty_int_s, ty_int_l, ty_int_t, ty_int_scr, ty_int_d, ty_str_n, ty_str_b, ty_str_i, ty_str_s, ty_str_l, ty_str_t, ty_str_scr, ty_str_d, ty_bool_n, ty_bool_b, ty_bool_i, ty_bool_s, ty_bool_l, ty_bool_t, ty_bool_scr, ty_bool_d, ty_list_n, ty_list_b, ty_list_i, ty_list_s, ty_list_l, ty_list_t, ty_list_scr, ty_list_d, ty_tuple_n, ty_tuple_b, ty_tuple_i, ty_tuple_s, ty_tuple_l, ty_tuple_t, ty_tuple_scr, ty_tuple_d, mtr_split, mtr_join, mtr_starts, mtr_lstrip, mtr_indexS, mtr_indexL, mtr_count, mtr_get1, mtr_get2, eq_nn_, ne_nn_, eq_nb_, ne_nb_, eq_ni_, ne_ni_, eq_bn_, ne_bn_, eq_bb_, ne_bb_, eq_bi_, ne_bi_, eq_bs_, ne_bs_, eq_in_, ne_in_, eq_ib_, ne_ib_, eq_is_, ne_is_, eq_sn_, ne_sn_, eq_sb_, ne_sb_, eq_si_, ne_si_, ne_ns_, c_mul, c_fdiv, c_mod, c_pow, c_adds, c_addl, c_ixs, lt600, lt60, lt1000, c_rng1, c_rng2, c_rng3, c_len, c_str, c_int, c_starts, c_indexS, c_sls, Nat.reduceLT, Int.reduceLT, Int.reduceLE, Int.reduceNeg, Int.reduceToNat, Int.reducePow, Int.reduceMul, Int.reduceAdd, Int.reduceSub, Bool.not_true, Bool.not_false, It.slots, E.slot, Nat.reduceBEq, Sc.d, Int.reduceEq, Nat.reduceEqDiff, kk_RF, kk_RL, hc]
  refine for_walk pcD (fun rem en o' => o' = o ∧ (rem.all okP = true) ∧ ∃ (m : Nat) (a : Txt) (s3 s4 : Slot), en = [.val ⟨.int m, .fz⟩, .val ⟨.str kR, .fz⟩, .val ⟨.str a, .fz⟩, s3, s4] ∧ romF rem m a = romF pieces n [] ∧ a.length + 2 * m ≤ 100000) (fun x => fin (x.seq _) = _) ?_ ?_ pieces _ _ ⟨rfl, by decide, n, [], _, _, rfl, rfl, by simp; omega⟩
  · rintro ⟨w, p⟩ r en o' ⟨rfl, hok, m, a, s3, s4, rfl, h1, h2⟩
    simp only [List.all_cons, okP, Bool.and_eq_true, decide_eq_true_eq] at hok
    obtain ⟨⟨⟨hw, hp⟩, -⟩, hok⟩ := hok
    simp only [pcD]
    simp only [List.length_cons, List.length_nil, Nat.reduceAdd, Nat.reduceLeDiff, if_true, List.map_cons, List.map_nil, Nat.reduceSub, List.replicate_succ, List.replicate_zero, List.cons_append, List.nil_append, List.all_cons, List.all_nil, Bool.and_true, Bool.true_and, Bool.and_self, decide_true, decide_false, Bool.false_or, Bool.or_false, List.contains_nil, if_false, Bool.false_eq_true, le_big, nal_fz, nal_fz', nal_ex', E.isHole, run_eq, reduceIte, cnd_bl, sl_0, sl_s, rd_val, rd_own, rd_ownd, pass_fz, pass_ex, pass_al, bind_ok, bind_bad, out_ok, out_bad, seq_next, seq_ret, seq_brk, seq_cnt, seq_bad, ofO_some, ofO_none, ev_var, ev_int, ev_str, ev_bl, ev_non, ev_glb, ev_op, ngI_int, ev_neg, nt_bl, ev_not, ev_and, ev_or, ev_one, ev_ife, oc_bl, ev_chain, ev_call, ev_bi, ev_isi, ev_mt, ev_ix, ev_sl, toI_int, optI_t, optI_f, ev_lst, ev_tup, ev_nil, ev_cons, ss_nil_, ss_cons_, s_set, s_own, s_par, s_ife, s_for, s_whl, s_drop, s_app, obE_s, loop_1, loop_m, s_ret, s_retN, s_nev, s_brk, s_cnt, s_pass, outO_some, outO_none, lk_nil, lk_cons, st1_0, st1_s, put_fz, put_ex, put_own, putV_nil, putV_cons, putA_nil, putA_cons, fin_next, fin_ret, fin_bad, nal_fz, nal_ex, nal_fz, nal_ex, add_ii, sub_ii, lt_ii, le_ii, gt_ii, ge_ii, is_n, isNot_n, eq_ss, ne_ss, eq_ii, ne_ii, eq_ns, in_ss, notIn_ss, kd_add_i, kd_add_s, kd_add_l, kd_mul_i, kd_sub, kd_fdiv, kd_mod, kd_pow, kd_lt, kd_le, kd_gt, kd_ge, kd_eq, kd_ne, kd_is, kd_isn, kd_in, kd_nin, ix_l, ix_t, ix_scr, map_some_, map_none_, bindO_some, bindO_none, it_any, it_A_t, it_A_s, it_A_l, it_L_fz, it_L_ex, it_L_al, it_r1, it_r2, it_r3, it_enum, it_zip, it_zip3, it_zipA, it_Z_s, it_Z_l, ev_lc, lc_fr_n, lc_fr_v, lc_free, lc_tgIx_1, lc_tgIx_m, obE_R, lc_optK_t, lc_optK_f, lc_noExc_ok, lc_noExc_bad, lc_noExc_exc, lcB_1, lcB_2, lcB_3, isO_own, isO_y, onO_eq, onO_s, bi_len_l, bi_len_scr, bi_len_t, bi_abs, bi_all, bi_any, bi_list, bi_tuple, ix_sl_l, ix_sl_scr, ix_d, ev_dlit, put_ownd, kd_mul_s, kd_mul_l, kd_mul_t, kd_inQ, kd_notInQ, kd_addS, kd_addL, isNon_n, isN_bl, isN_int, isN_str, isN_lst, isN_tup, ty_int_n, ty_int_b, ty_int_i, ty_int_s, ty_int_l, ty_int_t, ty_int_scr, ty_int_d, ty_str_n, ty_str_b, ty_str_i, ty_str_s, ty_str_l, ty_str_t, ty_str_scr, ty_str_d, ty_bool_n, ty_bool_b, ty_bool_i, ty_bool_s, ty_bool_l, ty_bool_t, ty_bool_scr, ty_bool_d, ty_list_n, ty_list_b, ty_list_i, ty_list_s, ty_list_l, ty_list_t, ty_list_scr, ty_list_d, ty_tuple_n, ty_tuple_b, ty_tuple_i, ty_tuple_s, ty_tuple_l, ty_tuple_t, ty_tuple_scr, ty_tuple_d, mtr_split, mtr_join, mtr_starts, mtr_lstrip, mtr_indexS, mtr_indexL, mtr_count, mtr_get1, mtr_get2, eq_nn_, ne_nn_, eq_nb_, ne_nb_, eq_ni_, ne_ni_, eq_bn_, ne_bn_, eq_bb_, ne_bb_, eq_bi_, ne_bi_, eq_bs_, ne_bs_, eq_in_, ne_in_, eq_ib_, ne_ib_, eq_is_, ne_is_, eq_sn_, ne_sn_, eq_sb_, ne_sb_, eq_si_, ne_si_, ne_ns_, c_mul, c_fdiv, c_mod, c_pow, c_adds, c_addl, c_ixs, lt600, lt60, lt1000, c_rng1, c_rng2, c_rng3, c_len, c_str, c_int, c_starts, c_indexS, c_sls, Nat.reduceLT, Int.reduceLT, Int.reduceLE, Int.reduceNeg, Int.reduceToNat, Int.reducePow, Int.reduceMul, Int.reduceAdd, Int.reduceSub, Bool.not_true, Bool.not_false, It.slots, E.slot, Nat.reduceBEq, Sc.d, Int.reduceEq, Nat.reduceEqDiff]
    refine whl_walk (fun q en o'' => o'' = o' ∧ ∃ (m : Nat) (a : Txt), m / w = q ∧ en = [.val ⟨.int m, .fz⟩, .val ⟨.str kR, .fz⟩, .val ⟨.str a, .fz⟩, .val ⟨.int w, .fz⟩, .val ⟨.str p, .fz⟩] ∧ romF ((w, p) :: r) m a = romF pieces n [] ∧ a.length + 2 * m ≤ 100000) (fun x => Step _ _ (x.seq _)) ?_ 100000 (m / w) _ _ ?_ ⟨rfl, m, a, rfl, rfl, h1, h2⟩
    · rintro q en o'' ⟨rfl, m, a, hq, rfl, h1, h2⟩
      refine ⟨decide ((w : Int) ≤ (m : Int)), .fz, by simp only [List.length_cons, List.length_nil, Nat.reduceAdd, Nat.reduceLeDiff, if_true, List.map_cons, List.map_nil, Nat.reduceSub, List.replicate_succ, List.replicate_zero, List.cons_append, List.nil_append, List.all_cons, List.all_nil, Bool.and_true, Bool.true_and, Bool.and_self, decide_true, decide_false, Bool.false_or, Bool.or_false, List.contains_nil, if_false, Bool.false_eq_true, le_big, nal_fz, nal_fz', nal_ex', E.isHole, run_eq, reduceIte, cnd_bl, sl_0, sl_s, rd_val, rd_own, rd_ownd, pass_fz, pass_ex, pass_al, bind_ok, bind_bad, out_ok, out_bad, seq_next, seq_ret, seq_brk, seq_cnt, seq_bad, ofO_some, ofO_none, ev_var, ev_int, ev_str, ev_bl, ev_non, ev_glb, ev_op, ngI_int, ev_neg, nt_bl, ev_not, ev_and, ev_or, ev_one, ev_ife, oc_bl, ev_chain, ev_call, ev_bi, ev_isi, ev_mt, ev_ix, ev_sl, toI_int, optI_t, optI_f, ev_lst, ev_tup, ev_nil, ev_cons, ss_nil_, ss_cons_, s_set, s_own, s_par, s_ife, s_for, s_whl, s_drop, s_app, obE_s, loop_1, loop_m, s_ret, s_retN, s_nev, s_brk, s_cnt, s_pass, outO_some, outO_none, lk_nil, lk_cons, st1_0, st1_s, put_fz, put_ex, put_own, putV_nil, putV_cons, putA_nil, putA_cons, fin_next, fin_ret, fin_bad, nal_fz, nal_ex, nal_fz, nal_ex, add_ii, sub_ii, lt_ii, le_ii, gt_ii, ge_ii, is_n, isNot_n, eq_ss, ne_ss, eq_ii, ne_ii, eq_ns, in_ss, notIn_ss, kd_add_i, kd_add_s, kd_add_l, kd_mul_i, kd_sub, kd_fdiv, kd_mod, kd_pow, kd_lt, kd_le, kd_gt, kd_ge, kd_eq, kd_ne, kd_is, kd_isn, kd_in, kd_nin, ix_l, ix_t, ix_scr, map_some_, map_none_, bindO_some, bindO_none, it_any, it_A_t, it_A_s, it_A_l, it_L_fz, it_L_ex, it_L_al, it_r1, it_r2, it_r3, it_enum, it_zip, it_zip3, it_zipA, it_Z_s, it_Z_l, ev_lc, lc_fr_n, lc_fr_v, lc_free, lc_tgIx_1, lc_tgIx_m, obE_R, lc_optK_t, lc_optK_f, lc_noExc_ok, lc_noExc_bad, lc_noExc_exc, lcB_1, lcB_2, lcB_3, isO_own, isO_y, onO_eq, onO_s, bi_len_l, bi_len_scr, bi_len_t, bi_abs, bi_all, bi_any, bi_list, bi_tuple, ix_sl_l, ix_sl_scr, ix_d, ev_dlit, put_ownd, kd_mul_s, kd_mul_l, kd_mul_t, kd_inQ, kd_notInQ, kd_addS, kd_addL, isNon_n, isN_bl, isN_int, isN_str, isN_lst, isN_tup, ty_int_n, ty_int_b, ty_int_i, ty_int_s, ty_int_l, ty_int_t, ty_int_scr, ty_int_d, ty_str_n, ty_str_b, ty_str_i, ty_str_s, ty_str_l, ty_str_t, ty_str_scr, ty_str_d, ty_bool_n, ty_bool_b, ty_bool_i, ty_bool_s, ty_bool_l, ty_bool_t, ty_bool_scr, ty_bool_d, ty_list_n, ty_list_b, ty_list_i, ty_list_s, ty_list_l, ty_list_t, ty_list_scr, ty_list_d, ty_tuple_n, ty_tuple_b, ty_tuple_i, ty_tuple_s, ty_tuple_l, ty_tuple_t, ty_tuple_scr, ty_tuple_d, mtr_split, mtr_join, mtr_starts, mtr_lstrip, mtr_indexS, mtr_indexL, mtr_count, mtr_get1, mtr_get2, eq_nn_, ne_nn_, eq_nb_, ne_nb_, eq_ni_, ne_ni_, eq_bn_, ne_bn_, eq_bb_, ne_bb_, eq_bi_, ne_bi_, eq_bs_, ne_bs_, eq_in_, ne_in_, eq_ib_, ne_ib_, eq_is_, ne_is_, eq_sn_, ne_sn_, eq_sb_, ne_sb_, eq_si_, ne_si_, ne_ns_, c_mul, c_fdiv, c_mod, c_pow, c_adds, c_addl, c_ixs, lt600, lt60, lt1000, c_rng1, c_rng2, c_rng3, c_len, c_str, c_int, c_starts, c_indexS, c_sls, Nat.reduceLT, Int.reduceLT, Int.reduceLE, Int.reduceNeg, Int.reduceToNat, Int.reducePow, Int.reduceMul, Int.reduceAdd, Int.reduceSub, Bool.not_true, Bool.not_false, It.slots, E.slot, Nat.reduceBEq, Sc.d, Int.reduceEq, Nat.reduceEqDiff], ?_⟩
      by_cases hm : w ≤ m
      · have hm' : decide ((w : Int) ≤ (m : Int)) = true := decide_eq_true (by omega)
        rw [if_pos hm']
        have e0 : ((m : Int) - (w : Int)) = ((m - w : Nat) : Int) := by omega
        have e4 : Op.add.ev (.str a) (.str p) = some (.str (a ++ p)) := c_adds (by show a.length + p.length ≤ 1000000; omega)
        simp only [List.length_cons, List.length_nil, Nat.reduceAdd, Nat.reduceLeDiff, if_true, List.map_cons, List.map_nil, Nat.reduceSub, List.replicate_succ, List.replicate_zero, List.cons_append, List.nil_append, List.all_cons, List.all_nil, Bool.and_true, Bool.true_and, Bool.and_self, decide_true, decide_false, Bool.false_or, Bool.or_false, List.contains_nil, if_false, Bool.false_eq_true, le_big, nal_fz, nal_fz', nal_ex', E.isHole, run_eq, reduceIte, cnd_bl, sl_0, sl_s, rd_val, rd_own, rd_ownd, pass_fz, pass_ex, pass_al, bind_ok, bind_bad, out_ok, out_bad, seq_next, seq_ret, seq_brk, seq_cnt, seq_bad, ofO_some, ofO_none, ev_var, ev_int, ev_str, ev_bl, ev_non, ev_glb, ev_op, ngI_int, ev_neg, nt_bl, ev_not, ev_and, ev_or, ev_one, ev_ife, oc_bl, ev_chain, ev_call, ev_bi, ev_isi, ev_mt, ev_ix, ev_sl, toI_int, optI_t, optI_f, ev_lst, ev_tup, ev_nil, ev_cons, ss_nil_, ss_cons_, s_set, s_own, s_par, s_ife, s_for, s_whl, s_drop, s_app, obE_s, loop_1, loop_m, s_ret, s_retN, s_nev, s_brk, s_cnt, s_pass, outO_some, outO_none, lk_nil, lk_cons, st1_0, st1_s, put_fz, put_ex, put_own, putV_nil, putV_cons, putA_nil, putA_cons, fin_next, fin_ret, fin_bad, nal_fz, nal_ex, nal_fz, nal_ex, add_ii, sub_ii, lt_ii, le_ii, gt_ii, ge_ii, is_n, isNot_n, eq_ss, ne_ss, eq_ii, ne_ii, eq_ns, in_ss, notIn_ss, kd_add_i, kd_add_s, kd_add_l, kd_mul_i, kd_sub, kd_fdiv, kd_mod, kd_pow, kd_lt, kd_le, kd_gt, kd_ge, kd_eq, kd_ne, kd_is, kd_isn, kd_in, kd_nin, ix_l, ix_t, ix_scr, map_some_, map_none_, bindO_some, bindO_none, it_any, it_A_t, it_A_s, it_A_l, it_L_fz, it_L_ex, it_L_al, it_r1, it_r2, it_r3, it_enum, it_zip, it_zip3, it_zipA, it_Z_s, it_Z_l, ev_lc, lc_fr_n, lc_fr_v, lc_free, lc_tgIx_1, lc_tgIx_m, obE_R, lc_optK_t, lc_optK_f, lc_noExc_ok, lc_noExc_bad, lc_noExc_exc, lcB_1, lcB_2, lcB_3, isO_own, isO_y, onO_eq, onO_s, bi_len_l, bi_len_scr, bi_len_t, bi_abs, bi_all, bi_any, bi_list, bi_tuple, ix_sl_l, ix_sl_scr, ix_d, ev_dlit, put_ownd, kd_mul_s, kd_mul_l, kd_mul_t, kd_inQ, kd_notInQ, kd_addS, kd_addL, isNon_n, isN_bl, isN_int, isN_str, isN_lst, isN_tup, ty_int_n, ty_int_b, ty_int_i, ty_int_s, ty_int_l, ty_int_t, ty_int_scr, ty_int_d, ty_str_n, ty_str_b, ty_str_i, ty_str_s, ty_str_l, ty_str_t, ty_str_scr, ty_str_d, ty_bool_n, ty_bool_b, ty_bool_i, ty_bool_s, ty_bool_l, ty_bool_t, ty_bool_scr, ty_bool_d, ty_list_n, ty_list_b, ty_list_i, ty_list_s, ty_list_l, ty_list_t, ty_list_scr, ty_list_d, ty_tuple_n, ty_tuple_b, ty_tuple_i, ty_tuple_s, ty_tuple_l, ty_tuple_t, ty_tuple_scr, ty_tuple_d, mtr_split, mtr_join, mtr_starts, mtr_lstrip, mtr_indexS, mtr_indexL, mtr_count, mtr_get1, mtr_get2, eq_nn_, ne_nn_, eq_nb_, ne_nb_, eq_ni_, ne_ni_, eq_bn_, ne_bn_, eq_bb_, ne_bb_, eq_bi_, ne_bi_, eq_bs_, ne_bs_, eq_in_, ne_in_, eq_ib_, ne_ib_, eq_is_, ne_is_, eq_sn_, ne_sn_, eq_sb_, ne_sb_, eq_si_, ne_si_, ne_ns_, c_mul, c_fdiv, c_mod, c_pow, c_adds, c_addl, c_ixs, lt600, lt60, lt1000, c_rng1, c_rng2, c_rng3, c_len, c_str, c_int, c_starts, c_indexS, c_sls, Nat.reduceLT, Int.reduceLT, Int.reduceLE, Int.reduceNeg, Int.reduceToNat, Int.reducePow, Int.reduceMul, Int.reduceAdd, Int.reduceSub, Bool.not_true, Bool.not_false, It.slots, E.slot, Nat.reduceBEq, Sc.d, Int.reduceEq, Nat.reduceEqDiff, e0, e4]
        refine ⟨(m - w) / w, ?_, rfl, m - w, a ++ p, rfl, rfl, ?_, by simp only [List.length_append]; omega⟩
        · rw [← hq]
          obtain ⟨d, rfl⟩ : ∃ d, m = d + w := ⟨m - w, by omega⟩; rw [Nat.add_sub_cancel, Nat.add_div_right _ hw]; omega
        · rw [rom_step w p r m a hw hm, h1]
      · have hm' : decide ((w : Int) ≤ (m : Int)) = false := decide_eq_false (by omega)
        rw [if_neg (by rw [hm']; decide)]
        simp only [List.length_cons, List.length_nil, Nat.reduceAdd, Nat.reduceLeDiff, if_true, List.map_cons, List.map_nil, Nat.reduceSub, List.replicate_succ, List.replicate_zero, List.cons_append, List.nil_append, List.all_cons, List.all_nil, Bool.and_true, Bool.true_and, Bool.and_self, decide_true, decide_false, Bool.false_or, Bool.or_false, List.contains_nil, if_false, Bool.false_eq_true, le_big, nal_fz, nal_fz', nal_ex', E.isHole, run_eq, reduceIte, cnd_bl, sl_0, sl_s, rd_val, rd_own, rd_ownd, pass_fz, pass_ex, pass_al, bind_ok, bind_bad, out_ok, out_bad, seq_next, seq_ret, seq_brk, seq_cnt, seq_bad, ofO_some, ofO_none, ev_var, ev_int, ev_str, ev_bl, ev_non, ev_glb, ev_op, ngI_int, ev_neg, nt_bl, ev_not, ev_and, ev_or, ev_one, ev_ife, oc_bl, ev_chain, ev_call, ev_bi, ev_isi, ev_mt, ev_ix, ev_sl, toI_int, optI_t, optI_f, ev_lst, ev_tup, ev_nil, ev_cons, ss_nil_, ss_cons_, s_set, s_own, s_par, s_ife, s_for, s_whl, s_drop, s_app, obE_s, loop_1, loop_m, s_ret, s_retN, s_nev, s_brk, s_cnt, s_pass, outO_some, outO_none, lk_nil, lk_cons, st1_0, st1_s, put_fz, put_ex, put_own, putV_nil, putV_cons, putA_nil, putA_cons, fin_next, fin_ret, fin_bad, nal_fz, nal_ex, nal_fz, nal_ex, add_ii, sub_ii, lt_ii, le_ii, gt_ii, ge_ii, is_n, isNot_n, eq_ss, ne_ss, eq_ii, ne_ii, eq_ns, in_ss, notIn_ss, kd_add_i, kd_add_s, kd_add_l, kd_mul_i, kd_sub, kd_fdiv, kd_mod, kd_pow, kd_lt, kd_le, kd_gt, kd_ge, kd_eq, kd_ne, kd_is, kd_isn, kd_in, kd_nin, ix_l, ix_t, ix_scr, map_some_, map_none_, bindO_some, bindO_none, it_any, it_A_t, it_A_s, it_A_l, it_L_fz, it_L_ex, it_L_al, it_r1, it_r2, it_r3, it_enum, it_zip, it_zip3, it_zipA, it_Z_s, it_Z_l, ev_lc, lc_fr_n, lc_fr_v, lc_free, lc_tgIx_1, lc_tgIx_m, obE_R, lc_optK_t, lc_optK_f, lc_noExc_ok, lc_noExc_bad, lc_noExc_exc, lcB_1, lcB_2, lcB_3, isO_own, isO_y, onO_eq, onO_s, bi_len_l, bi_len_scr, bi_len_t, bi_abs, bi_all, bi_any, bi_list, bi_tuple, ix_sl_l, ix_sl_scr, ix_d, ev_dlit, put_ownd, kd_mul_s, kd_mul_l, kd_mul_t, kd_inQ, kd_notInQ, kd_addS, kd_addL, isNon_n, isN_bl, isN_int, isN_str, isN_lst, isN_tup, ty_int_n, ty_int_b, ty_int_i, ty_int_s, ty_int_l, ty_int_t, ty_int_scr, ty_int_d, ty_str_n, ty_str_b, ty_str_i, ty_str_s, ty_str_l, ty_str_t, ty_str_scr, ty_str_d, ty_bool_n, ty_bool_b, ty_bool_i, ty_bool_s, ty_bool_l, ty_bool_t, ty_bool_scr, ty_bool_d, ty_list_n, ty_list_b, ty_list_i, ty_list_s, ty_list_l, ty_list_t, ty_list_scr, ty_list_d, ty_tuple_n, ty_tuple_b, ty_tuple_i, ty_tuple_s, ty_tuple_l, ty_tuple_t, ty_tuple_scr, ty_tuple_d, mtr_split, mtr_join, mtr_starts, mtr_lstrip, mtr_indexS, mtr_indexL, mtr_count, mtr_get1, mtr_get2, eq_nn_, ne_nn_, eq_nb_, ne_nb_, eq_ni_, ne_ni_, eq_bn_, ne_bn_, eq_bb_, ne_bb_, eq_bi_, ne_bi_, eq_bs_, ne_bs_, eq_in_, ne_in_, eq_ib_, ne_ib_, eq_is_, ne_is_, eq_sn_, ne_sn_, eq_sb_, ne_sb_, eq_si_, ne_si_, ne_ns_, c_mul, c_fdiv, c_mod, c_pow, c_adds, c_addl, c_ixs, lt600, lt60, lt1000, c_rng1, c_rng2, c_rng3, c_len, c_str, c_int, c_starts, c_indexS, c_sls, Nat.reduceLT, Int.reduceLT, Int.reduceLE, Int.reduceNeg, Int.reduceToNat, Int.reducePow, Int.reduceMul, Int.reduceAdd, Int.reduceSub, Bool.not_true, Bool.not_false, It.slots, E.slot, Nat.reduceBEq, Sc.d, Int.reduceEq, Nat.reduceEqDiff]
        refine ⟨rfl, hok, m, a, _, _, rfl, ?_, h2⟩
        rw [← h1]
        show _ = romF r (m % w) (a ++ (List.replicate (m / w) p).flatten)
        rw [Nat.mod_eq_of_lt (by omega), Nat.div_eq_of_lt (by omega)]
        simp
    · have : m / w ≤ m := Nat.div_le_self _ _
      omega
  · rintro en o' ⟨rfl, -, m, a, s3, s4, rfl, h1, h2⟩
    have h1 : a = romF pieces n [] := h1
    simp only [List.length_cons, List.length_nil, Nat.reduceAdd, Nat.reduceLeDiff, if_true, List.map_cons, List.map_nil, Nat.reduceSub, List.replicate_succ, List.replicate_zero, List.cons_append, List.nil_append, List.all_cons, List.all_nil, Bool.and_true, Bool.true_and, Bool.and_self, decide_true, decide_false, Bool.false_or, Bool.or_false, List.contains_nil, if_false, Bool.false_eq_true, le_big, nal_fz, nal_fz', nal_ex', E.isHole, run_eq, reduceIte, cnd_bl, sl_0, sl_s, rd_val, rd_own, rd_ownd, pass_fz, pass_ex, pass_al, bind_ok, bind_bad, out_ok, out_bad, seq_next, seq_ret, seq_brk, seq_cnt, seq_bad, ofO_some, ofO_none, ev_var, ev_int, ev_str, ev_bl, ev_non, ev_glb, ev_op, ngI_int, ev_neg, nt_bl, ev_not, ev_and, ev_or, ev_one, ev_ife, oc_bl, ev_chain, ev_call, ev_bi, ev_isi, ev_mt, ev_ix, ev_sl, toI_int, optI_t, optI_f, ev_lst, ev_tup, ev_nil, ev_cons, ss_nil_, ss_cons_, s_set, s_own, s_par, s_ife, s_for, s_whl, s_drop, s_app, obE_s, loop_1, loop_m, s_ret, s_retN, s_nev, s_brk, s_cnt, s_pass, outO_some, outO_none, lk_nil, lk_cons, st1_0, st1_s, put_fz, put_ex, put_own, putV_nil, putV_cons, putA_nil, putA_cons, fin_next, fin_ret, fin_bad, nal_fz, nal_ex, nal_fz, nal_ex, add_ii, sub_ii, lt_ii, le_ii, gt_ii, ge_ii, is_n, isNot_n, eq_ss, ne_ss, eq_ii, ne_ii, eq_ns, in_ss, notIn_ss, kd_add_i, kd_add_s, kd_add_l, kd_mul_i, kd_sub, kd_fdiv, kd_mod, kd_pow, kd_lt, kd_le, kd_gt, kd_ge, kd_eq, kd_ne, kd_is, kd_isn, kd_in, kd_nin, ix_l, ix_t, ix_scr, map_some_, map_none_, bindO_some, bindO_none, it_any, it_A_t, it_A_s, it_A_l, it_L_fz, it_L_ex, it_L_al, it_r1, it_r2, it_r3, it_enum, it_zip, it_zip3, it_zipA, it_Z_s, it_Z_l, ev_lc, lc_fr_n, lc_fr_v, lc_free, lc_tgIx_1, lc_tgIx_m, obE_R, lc_optK_t, lc_optK_f, lc_noExc_ok, lc_noExc_bad, lc_noExc_exc, lcB_1, lcB_2, lcB_3, isO_own, isO_y, onO_eq, onO_s, bi_len_l, bi_len_scr, bi_len_t, bi_abs, bi_all, bi_any, bi_list, bi_tuple, ix_sl_l, ix_sl_scr, ix_d, ev_dlit, put_ownd, kd_mul_s, kd_mul_l, kd_mul_t, kd_inQ, kd_notInQ, kd_addS, kd_addL, isNon_n, isN_bl, isN_int, isN_str, isN_lst, isN_tup, ty_int_n, ty_int_b, ty_int_i, ty_int_s, ty_int_l, ty_int_t, ty_int_scr, ty_int_d, ty_str_n, ty_str_b, ty_str_i, ty_str_s, ty_str_l, ty_str_t, ty_str_scr, ty_str_d, ty_bool_n, ty_bool_b, ty_bool_i, ty_bool_s, ty_bool_l, ty_bool_t, ty_bool_scr, ty_bool_d, ty_list_n, ty_list_b, ty_list_i, ty_list_s, ty_list_l, ty_list_t, ty_list_scr, ty_list_d, ty_tuple_n, ty_tuple_b, ty_tuple_i, ty_tuple_s, ty_tuple_l, ty_tuple_t, ty_tuple_scr, ty_tuple_d, mtr_split, mtr_join, mtr_starts, mtr_lstrip, mtr_indexS, mtr_indexL, mtr_count, mtr_get1, mtr_get2, eq_nn_, ne_nn_, eq_nb_, ne_nb_, eq_ni_, ne_ni_, eq_bn_, ne_bn_, eq_bb_, ne_bb_, eq_bi_, ne_bi_, eq_bs_, ne_bs_, eq_in_, ne_in_, eq_ib_, ne_ib_, eq_is_, ne_is_, eq_sn_, ne_sn_, eq_sb_, ne_sb_, eq_si_, ne_si_, ne_ns_, c_mul, c_fdiv, c_mod, c_pow, c_adds, c_addl, c_ixs, lt600, lt60, lt1000, c_rng1, c_rng2, c_rng3, c_len, c_str, c_int, c_starts, c_indexS, c_sls, Nat.reduceLT, Int.reduceLT, Int.reduceLE, Int.reduceNeg, Int.reduceToNat, Int.reducePow, Int.reduceMul, Int.reduceAdd, Int.reduceSub, Bool.not_true, Bool.not_false, It.slots, E.slot, Nat.reduceBEq, Sc.d, Int.reduceEq, Nat.reduceEqDiff, h1]
end
end B
end

section
set_option Elab.async false
set_option linter.all false
set_option maxRecDepth 100000
set_option maxHeartbeats 4000000
/-! N4: values read, walked. -/
namespace B
theorem dig_c (c : Nat) : dig.contains c = (decide (48 ≤ c) && decide (c ≤ 57)) := by
  rw [Bool.eq_iff_iff]; simp [dig]; omega
theorem figs_all (t : Txt) : (t.all fun c => dig.contains c) = allFigs t := by
  unfold allFigs
  congr 1
  funext c
  exact dig_c c
theorem pos_lt (c : Nat) : ∀ t : Txt, t.contains c = true → posOf c t < t.length
  | [], h => by simp at h
  | x :: r, h => by
    unfold posOf
    split
    · simp
    · rename_i hx
      have : r.contains c = true := by
        simp only [List.contains_cons, Bool.or_eq_true, beq_iff_eq] at h
        rcases h with h | h
        · exact absurd h.symm hx
        · exact h
      have := pos_lt c r this
      simp; omega
theorem eat_fuel (p : Txt) (w : Nat) (hp : p ≠ []) : ∀ f g t v, t.length ≤ f → t.length ≤ g → eat p w f t v = eat p w g t v
  | 0, 0, t, v, _, _ => rfl
  | 0, g + 1, t, v, h, _ => by
    have : t = [] := List.length_eq_zero_iff.1 (by omega)
    subst this
    cases p with
    | nil => exact absurd rfl hp
    | cons a b => rfl
  | f + 1, 0, t, v, _, h => by
    have : t = [] := List.length_eq_zero_iff.1 (by omega)
    subst this
    cases p with
    | nil => exact absurd rfl hp
    | cons a b => rfl
  | f + 1, g + 1, t, v, h1, h2 => by
    simp only [eat]
    split
    · have : 0 < p.length := List.length_pos_iff.2 hp
      exact eat_fuel p w hp f g _ _ (by rw [List.length_drop]; omega) (by rw [List.length_drop]; omega)
    · rfl
theorem eat_len (p : Txt) (w : Nat) : ∀ f t v, (eat p w f t v).1.length ≤ t.length
  | 0, t, v => Nat.le_refl _
  | f + 1, t, v => by
    simp only [eat]
    split
    · exact Nat.le_trans (eat_len p w f _ _) (by rw [List.length_drop]; omega)
    · exact Nat.le_refl _
theorem sIx_n (m d k : Nat) : sIx m d (some (k : Int)) = min k m := by
  show (if (k : Int) < 0 then ((k : Int) + m).toNat else min (k : Int).toNat m) = _
  rw [if_neg (by omega), Int.toNat_natCast]
theorem sIx_no (m d : Nat) : sIx m d none = d := rfl
theorem cut_drop {α : Type} (t : List α) (n : Nat) : cut t (some (n : Int)) none = t.drop n := by
  unfold cut
  rw [sIx_n, sIx_no]
  rw [List.take_of_length_le (by rw [List.length_drop]; omega)]
  by_cases h : n ≤ t.length
  · rw [Nat.min_eq_left h]
  · rw [Nat.min_eq_right (by omega), List.drop_eq_nil_of_le (Nat.le_refl _), List.drop_eq_nil_of_le (by omega)]
section
variable (G : Sg) (o : Objs)
theorem w2F (t : Txt) (ht : t.length ≤ 20) : runDef G b_value_of 6 [⟨.str t, .fz⟩, ⟨.str kF, .fz⟩] o = .ok ⟨.int (valOf t kF), .fz⟩ o := by
  unfold b_value_of
  have e0 : valOf t kF = if t ≠ [] ∧ (t.all fun c => dig.contains c) = true then numT t else 0 := rfl
  rw [e0]
  by_cases h : t = []
  · subst h
    simp only [List.length_cons, List.length_nil, Nat.reduceAdd, Nat.reduceLeDiff, if_true, List.map_cons, List.map_nil, Nat.reduceSub, List.replicate_succ, List.replicate_zero, List.cons_append, List.nil_append, List.all_cons, List.all_nil, Bool.and_true, Bool.true_and, Bool.and_self, decide_true, decide_false, Bool.false_or, Bool.or_false, List.contains_nil, if_false, Bool.false_eq_true, le_big, nal_fz, nal_fz', nal_ex', E.isHole, run_eq, reduceIte, cnd_bl, sl_0, sl_s, rd_val, rd_own, rd_ownd, pass_fz, pass_ex, pass_al, bind_ok, bind_bad, out_ok, out_bad, seq_next, seq_ret, seq_brk, seq_cnt, seq_bad, ofO_some, ofO_none, ev_var, ev_int, ev_str, ev_bl, ev_non, ev_glb, ev_op, ngI_int, ev_neg, nt_bl, ev_not, ev_and, ev_or, ev_one, ev_ife, oc_bl, ev_chain, ev_call, ev_bi, ev_isi, ev_mt, ev_ix, ev_sl, toI_int, optI_t, optI_f, ev_lst, ev_tup, ev_nil, ev_cons, ss_nil_, ss_cons_, s_set, s_own, s_par, s_ife, s_for, s_whl, s_drop, s_app, obE_s, loop_1, loop_m, s_ret, s_retN, s_nev, s_brk, s_cnt, s_pass, outO_some, outO_none, lk_nil, lk_cons, st1_0, st1_s, put_fz, put_ex, put_own, putV_nil, putV_cons, putA_nil, putA_cons, fin_next, fin_ret, fin_bad, nal_fz, nal_ex, nal_fz, nal_ex, add_ii, sub_ii, lt_ii, le_ii, gt_ii, ge_ii, is_n, isNot_n, eq_ss, ne_ss, eq_ii, ne_ii, eq_ns, in_ss, notIn_ss, kd_add_i, kd_add_s, kd_add_l, kd_mul_i, kd_sub, kd_fdiv, kd_mod, kd_pow, kd_lt, kd_le, kd_gt, kd_ge, kd_eq, kd_ne, kd_is, kd_isn, kd_in, kd_nin, ix_l, ix_t, ix_scr, map_some_, map_none_, bindO_some, bindO_none, it_any, it_A_t, it_A_s, it_A_l, it_L_fz, it_L_ex, it_L_al, it_r1, it_r2, it_r3, it_enum, it_zip, it_zip3, it_zipA, it_Z_s, it_Z_l, ev_lc, lc_fr_n, lc_fr_v, lc_free, lc_tgIx_1, lc_tgIx_m, obE_R, lc_optK_t, lc_optK_f, lc_noExc_ok, lc_noExc_bad, lc_noExc_exc, lcB_1, lcB_2, lcB_3, isO_own, isO_y, onO_eq, onO_s, bi_len_l, bi_len_scr, bi_len_t, bi_abs, bi_all, bi_any, bi_list, bi_tuple, ix_sl_l, ix_sl_scr, ix_d, ev_dlit, put_ownd, kd_mul_s, kd_mul_l, kd_mul_t, kd_inQ, kd_notInQ, kd_addS, kd_addL, isNon_n, isN_bl, isN_int, isN_str, isN_lst, isN_tup, ty_int_n, ty_int_b, ty_int_i, ty_int_s, ty_int_l, ty_int_t, ty_int_scr, ty_int_d, ty_str_n, ty_str_b, ty_str_i, ty_str_s, ty_str_l, ty_str_t, ty_str_scr, ty_str_d, ty_bool_n, ty_bool_b, ty_bool_i, ty_bool_s, ty_bool_l, ty_bool_t, ty_bool_scr, ty_bool_d, ty_list_n, ty_list_b, ty_list_i, ty_list_s, ty_list_l, ty_list_t, ty_list_scr, ty_list_d, ty_tuple_n, ty_tuple_b, ty_tuple_i, ty_tuple_s, ty_tuple_l, ty_tuple_t, ty_tuple_scr, ty_tuple_d, mtr_split, mtr_join, mtr_starts, mtr_lstrip, mtr_indexS, mtr_indexL, mtr_count, mtr_get1, mtr_get2, eq_nn_, ne_nn_, eq_nb_, ne_nb_, eq_ni_, ne_ni_, eq_bn_, ne_bn_, eq_bb_, ne_bb_, eq_bi_, ne_bi_, eq_bs_, ne_bs_, eq_in_, ne_in_, eq_ib_, ne_ib_, eq_is_, ne_is_, eq_sn_, ne_sn_, eq_sb_, ne_sb_, eq_si_, ne_si_, ne_ns_, c_mul, c_fdiv, c_mod, c_pow, c_adds, c_addl, c_ixs, lt600, lt60, lt1000, c_rng1, c_rng2, c_rng3, c_len, c_str, c_int, c_starts, c_indexS, c_sls, Nat.reduceLT, Int.reduceLT, Int.reduceLE, Int.reduceNeg, Int.reduceToNat, Int.reducePow, Int.reduceMul, Int.reduceAdd, Int.reduceSub, Bool.not_true, Bool.not_false, It.slots, E.slot, Nat.reduceBEq, Sc.d, Int.reduceEq, Nat.reduceEqDiff, kk_FF, show (([] : Txt) == []) = true from rfl]
    rfl
  · have h' : (t == []) = false := by cases t <;> first | exact absurd rfl h | rfl
    have hl := lc_in G o 3 dig t [.val ⟨.str t, .fz⟩, .val ⟨.str kF, .fz⟩, .val ⟨.int 0, .fz⟩, .none, .none, .none] (by simp)
    have hb : decide (List.length (List.map (fun c => D.str [c]) t) ≤ bigL) = true := decide_eq_true (by rw [List.length_map]; show _ ≤ 1000000; omega)
    have hd : ([48, 49, 50, 51, 52, 53, 54, 55, 56, 57] : Txt) = dig := rfl
    by_cases ha : (t.all fun c => dig.contains c) = true
    · have ha2 : allFigs t = true := by rw [← figs_all]; exact ha
      have ht2 : (t.length ≤ 640) = True := eq_true (by omega)
      have ht3 : (t ≠ []) = True := eq_true h
      rw [if_pos ⟨h, ha⟩]
      simp only [List.length_cons, List.length_nil, Nat.reduceAdd, Nat.reduceLeDiff, if_true, List.map_cons, List.map_nil, Nat.reduceSub, List.replicate_succ, List.replicate_zero, List.cons_append, List.nil_append, List.all_cons, List.all_nil, Bool.and_true, Bool.true_and, Bool.and_self, decide_true, decide_false, Bool.false_or, Bool.or_false, List.contains_nil, if_false, Bool.false_eq_true, le_big, nal_fz, nal_fz', nal_ex', E.isHole, run_eq, reduceIte, cnd_bl, sl_0, sl_s, rd_val, rd_own, rd_ownd, pass_fz, pass_ex, pass_al, bind_ok, bind_bad, out_ok, out_bad, seq_next, seq_ret, seq_brk, seq_cnt, seq_bad, ofO_some, ofO_none, ev_var, ev_int, ev_str, ev_bl, ev_non, ev_glb, ev_op, ngI_int, ev_neg, nt_bl, ev_not, ev_and, ev_or, ev_one, ev_ife, oc_bl, ev_chain, ev_call, ev_bi, ev_isi, ev_mt, ev_ix, ev_sl, toI_int, optI_t, optI_f, ev_lst, ev_tup, ev_nil, ev_cons, ss_nil_, ss_cons_, s_set, s_own, s_par, s_ife, s_for, s_whl, s_drop, s_app, obE_s, loop_1, loop_m, s_ret, s_retN, s_nev, s_brk, s_cnt, s_pass, outO_some, outO_none, lk_nil, lk_cons, st1_0, st1_s, put_fz, put_ex, put_own, putV_nil, putV_cons, putA_nil, putA_cons, fin_next, fin_ret, fin_bad, nal_fz, nal_ex, nal_fz, nal_ex, add_ii, sub_ii, lt_ii, le_ii, gt_ii, ge_ii, is_n, isNot_n, eq_ss, ne_ss, eq_ii, ne_ii, eq_ns, in_ss, notIn_ss, kd_add_i, kd_add_s, kd_add_l, kd_mul_i, kd_sub, kd_fdiv, kd_mod, kd_pow, kd_lt, kd_le, kd_gt, kd_ge, kd_eq, kd_ne, kd_is, kd_isn, kd_in, kd_nin, ix_l, ix_t, ix_scr, map_some_, map_none_, bindO_some, bindO_none, it_any, it_A_t, it_A_s, it_A_l, it_L_fz, it_L_ex, it_L_al, it_r1, it_r2, it_r3, it_enum, it_zip, it_zip3, it_zipA, it_Z_s, it_Z_l, ev_lc, lc_fr_n, lc_fr_v, lc_free, lc_tgIx_1, lc_tgIx_m, obE_R, lc_optK_t, lc_optK_f, lc_noExc_ok, lc_noExc_bad, lc_noExc_exc, lcB_1, lcB_2, lcB_3, isO_own, isO_y, onO_eq, onO_s, bi_len_l, bi_len_scr, bi_len_t, bi_abs, bi_all, bi_any, bi_list, bi_tuple, ix_sl_l, ix_sl_scr, ix_d, ev_dlit, put_ownd, kd_mul_s, kd_mul_l, kd_mul_t, kd_inQ, kd_notInQ, kd_addS, kd_addL, isNon_n, isN_bl, isN_int, isN_str, isN_lst, isN_tup, ty_int_n, ty_int_b, ty_int_i, ty_int_s, ty_int_l, ty_int_t, ty_int_scr, ty_int_d, ty_str_n, ty_str_b, ty_str_i, ty_str_s, ty_str_l, ty_str_t, ty_str_scr, ty_str_d, ty_bool_n, ty_bool_b, ty_bool_i, ty_bool_s, ty_bool_l, ty_bool_t, ty_bool_scr, ty_bool_d, ty_list_n, ty_list_b, ty_list_i, ty_list_s, ty_list_l, ty_list_t, ty_list_scr, ty_list_d, ty_tuple_n, ty_tuple_b, ty_tuple_i, ty_tuple_s, ty_tuple_l, ty_tuple_t, ty_tuple_scr, ty_tuple_d, mtr_split, mtr_join, mtr_starts, mtr_lstrip, mtr_indexS, mtr_indexL, mtr_count, mtr_get1, mtr_get2, eq_nn_, ne_nn_, eq_nb_, ne_nb_, eq_ni_, ne_ni_, eq_bn_, ne_bn_, eq_bb_, ne_bb_, eq_bi_, ne_bi_, eq_bs_, ne_bs_, eq_in_, ne_in_, eq_ib_, ne_ib_, eq_is_, ne_is_, eq_sn_, ne_sn_, eq_sb_, ne_sb_, eq_si_, ne_si_, ne_ns_, c_mul, c_fdiv, c_mod, c_pow, c_adds, c_addl, c_ixs, lt600, lt60, lt1000, c_rng1, c_rng2, c_rng3, c_len, c_str, c_int, c_starts, c_indexS, c_sls, Nat.reduceLT, Int.reduceLT, Int.reduceLE, Int.reduceNeg, Int.reduceToNat, Int.reducePow, Int.reduceMul, Int.reduceAdd, Int.reduceSub, Bool.not_true, Bool.not_false, It.slots, E.slot, Nat.reduceBEq, Sc.d, Int.reduceEq, Nat.reduceEqDiff, kk_FF, h', hb, hd, hl, bi_bls, all_id, ha, ha2, ht2, ht3]
    · rw [if_neg (fun x => ha x.2)]
      have ha : (t.all fun c => dig.contains c) = false := by simpa using ha
      simp only [List.length_cons, List.length_nil, Nat.reduceAdd, Nat.reduceLeDiff, if_true, List.map_cons, List.map_nil, Nat.reduceSub, List.replicate_succ, List.replicate_zero, List.cons_append, List.nil_append, List.all_cons, List.all_nil, Bool.and_true, Bool.true_and, Bool.and_self, decide_true, decide_false, Bool.false_or, Bool.or_false, List.contains_nil, if_false, Bool.false_eq_true, le_big, nal_fz, nal_fz', nal_ex', E.isHole, run_eq, reduceIte, cnd_bl, sl_0, sl_s, rd_val, rd_own, rd_ownd, pass_fz, pass_ex, pass_al, bind_ok, bind_bad, out_ok, out_bad, seq_next, seq_ret, seq_brk, seq_cnt, seq_bad, ofO_some, ofO_none, ev_var, ev_int, ev_str, ev_bl, ev_non, ev_glb, ev_op, ngI_int, ev_neg, nt_bl, ev_not, ev_and, ev_or, ev_one, ev_ife, oc_bl, ev_chain, ev_call, ev_bi, ev_isi, ev_mt, ev_ix, ev_sl, toI_int, optI_t, optI_f, ev_lst, ev_tup, ev_nil, ev_cons, ss_nil_, ss_cons_, s_set, s_own, s_par, s_ife, s_for, s_whl, s_drop, s_app, obE_s, loop_1, loop_m, s_ret, s_retN, s_nev, s_brk, s_cnt, s_pass, outO_some, outO_none, lk_nil, lk_cons, st1_0, st1_s, put_fz, put_ex, put_own, putV_nil, putV_cons, putA_nil, putA_cons, fin_next, fin_ret, fin_bad, nal_fz, nal_ex, nal_fz, nal_ex, add_ii, sub_ii, lt_ii, le_ii, gt_ii, ge_ii, is_n, isNot_n, eq_ss, ne_ss, eq_ii, ne_ii, eq_ns, in_ss, notIn_ss, kd_add_i, kd_add_s, kd_add_l, kd_mul_i, kd_sub, kd_fdiv, kd_mod, kd_pow, kd_lt, kd_le, kd_gt, kd_ge, kd_eq, kd_ne, kd_is, kd_isn, kd_in, kd_nin, ix_l, ix_t, ix_scr, map_some_, map_none_, bindO_some, bindO_none, it_any, it_A_t, it_A_s, it_A_l, it_L_fz, it_L_ex, it_L_al, it_r1, it_r2, it_r3, it_enum, it_zip, it_zip3, it_zipA, it_Z_s, it_Z_l, ev_lc, lc_fr_n, lc_fr_v, lc_free, lc_tgIx_1, lc_tgIx_m, obE_R, lc_optK_t, lc_optK_f, lc_noExc_ok, lc_noExc_bad, lc_noExc_exc, lcB_1, lcB_2, lcB_3, isO_own, isO_y, onO_eq, onO_s, bi_len_l, bi_len_scr, bi_len_t, bi_abs, bi_all, bi_any, bi_list, bi_tuple, ix_sl_l, ix_sl_scr, ix_d, ev_dlit, put_ownd, kd_mul_s, kd_mul_l, kd_mul_t, kd_inQ, kd_notInQ, kd_addS, kd_addL, isNon_n, isN_bl, isN_int, isN_str, isN_lst, isN_tup, ty_int_n, ty_int_b, ty_int_i, ty_int_s, ty_int_l, ty_int_t, ty_int_scr, ty_int_d, ty_str_n, ty_str_b, ty_str_i, ty_str_s, ty_str_l, ty_str_t, ty_str_scr, ty_str_d, ty_bool_n, ty_bool_b, ty_bool_i, ty_bool_s, ty_bool_l, ty_bool_t, ty_bool_scr, ty_bool_d, ty_list_n, ty_list_b, ty_list_i, ty_list_s, ty_list_l, ty_list_t, ty_list_scr, ty_list_d, ty_tuple_n, ty_tuple_b, ty_tuple_i, ty_tuple_s, ty_tuple_l, ty_tuple_t, ty_tuple_scr, ty_tuple_d, mtr_split, mtr_join, mtr_starts, mtr_lstrip, mtr_indexS, mtr_indexL, mtr_count, mtr_get1, mtr_get2, eq_nn_, ne_nn_, eq_nb_, ne_nb_, eq_ni_, ne_ni_, eq_bn_, ne_bn_, eq_bb_, ne_bb_, eq_bi_, ne_bi_, eq_bs_, ne_bs_, eq_in_, ne_in_, eq_ib_, ne_ib_, eq_is_, ne_is_, eq_sn_, ne_sn_, eq_sb_, ne_sb_, eq_si_, ne_si_, ne_ns_, c_mul, c_fdiv, c_mod, c_pow, c_adds, c_addl, c_ixs, lt600, lt60, lt1000, c_rng1, c_rng2, c_rng3, c_len, c_str, c_int, c_starts, c_indexS, c_sls, Nat.reduceLT, Int.reduceLT, Int.reduceLE, Int.reduceNeg, Int.reduceToNat, Int.reducePow, Int.reduceMul, Int.reduceAdd, Int.reduceSub, Bool.not_true, Bool.not_false, It.slots, E.slot, Nat.reduceBEq, Sc.d, Int.reduceEq, Nat.reduceEqDiff, kk_FF, h', hb, hd, hl, bi_bls, all_id, ha]
      rfl
theorem w2L (hc : G.ct 2 = .str abc) (t : Txt) (ht : t.length ≤ 20) : runDef G b_value_of 6 [⟨.str t, .fz⟩, ⟨.str kL, .fz⟩] o = .ok ⟨.int (valOf t kL), .fz⟩ o := by
  unfold b_value_of
  rw [show valOf t kL = valL t 0 by unfold valOf; rw [if_neg (by decide), if_pos rfl]]
  simp only [List.length_cons, List.length_nil, Nat.reduceAdd, Nat.reduceLeDiff, if_true, List.map_cons, List.map_nil, Nat.reduceSub, List.replicate_succ, List.replicate_zero, List.cons_append, List.nil_append, List.all_cons, List.all_nil, Bool.and_true, Bool.true_and, Bool.and_self, decide_true, decide_false, Bool.false_or, Bool.or_false, List.contains_nil, if_false, Bool.false_eq_true, le_big, nal_fz, nal_fz', nal_ex', E.isHole, run_eq, reduceIte, cnd_bl, sl_0, sl_s, rd_val, rd_own, rd_ownd, pass_fz, pass_ex, pass_al, bind_ok, bind_bad, out_ok, out_bad, seq_next, seq_ret, seq_brk, seq_cnt, seq_bad, ofO_some, ofO_none, ev_var, ev_int, ev_str, ev_bl, ev_non, ev_glb, ev_op, ngI_int, ev_neg, nt_bl, ev_not, ev_and, ev_or, ev_one, ev_ife, oc_bl, ev_chain, ev_call, ev_bi, ev_isi, ev_mt, ev_ix, ev_sl, toI_int, optI_t, optI_f, ev_lst, ev_tup, ev_nil, ev_cons, ss_nil_, ss_cons_, s_set, s_own, s_par, s_ife, s_for, s_whl, s_drop, s_app, obE_s, loop_1, loop_m, s_ret, s_retN, s_nev, s_brk, s_cnt, s_pass, outO_some, outO_none, lk_nil, lk_cons, st1_0, st1_s, put_fz, put_ex, put_own, putV_nil, putV_cons, putA_nil, putA_cons, fin_next, fin_ret, fin_bad, nal_fz, nal_ex, nal_fz, nal_ex, add_ii, sub_ii, lt_ii, le_ii, gt_ii, ge_ii, is_n, isNot_n, eq_ss, ne_ss, eq_ii, ne_ii, eq_ns, in_ss, notIn_ss, kd_add_i, kd_add_s, kd_add_l, kd_mul_i, kd_sub, kd_fdiv, kd_mod, kd_pow, kd_lt, kd_le, kd_gt, kd_ge, kd_eq, kd_ne, kd_is, kd_isn, kd_in, kd_nin, ix_l, ix_t, ix_scr, map_some_, map_none_, bindO_some, bindO_none, it_any, it_A_t, it_A_s, it_A_l, it_L_fz, it_L_ex, it_L_al, it_r1, it_r2, it_r3, it_enum, it_zip, it_zip3, it_zipA, it_Z_s, it_Z_l, ev_lc, lc_fr_n, lc_fr_v, lc_free, lc_tgIx_1, lc_tgIx_m, obE_R, lc_optK_t, lc_optK_f, lc_noExc_ok, lc_noExc_bad, lc_noExc_exc, lcB_1, lcB_2, lcB_3, isO_own, isO_y, onO_eq, onO_s, bi_len_l, bi_len_scr, bi_len_t, bi_abs, bi_all, bi_any, bi_list, bi_tuple, ix_sl_l, ix_sl_scr, ix_d, ev_dlit, put_ownd, kd_mul_s, kd_mul_l, kd_mul_t, kd_inQ, kd_notInQ, kd_addS, kd_addL, isNon_n, isN_bl, isN_int, isN_str, isN_lst, isN_tup, ty_int_n, ty_int_b, ty_int_i, ty_int_s, ty_int_l, ty_int_t, ty_int_scr, ty_int_d, ty_str_n, ty_str_b, ty_str_i, ty_str_s, ty_str_l, ty_str_t, ty_str_scr, ty_str_d, ty_bool_n, ty_bool_b, ty_bool_i, ty_bool_s, ty_bool_l, ty_bool_t, ty_bool_scr, ty_bool_d, ty_list_n, ty_list_b, ty_list_i, ty_list_s, ty_list_l, ty_list_t, ty_list_scr, ty_list_d, ty_tuple_n, ty_tuple_b, ty_tuple_i, ty_tuple_s, ty_tuple_l, ty_tuple_t, ty_tuple_scr, ty_tuple_d, mtr_split, mtr_join, mtr_starts, mtr_lstrip, mtr_indexS, mtr_indexL, mtr_count, mtr_get1, mtr_get2, eq_nn_, ne_nn_, eq_nb_, ne_nb_, eq_ni_, ne_ni_, eq_bn_, ne_bn_, eq_bb_, ne_bb_, eq_bi_, ne_bi_, eq_bs_, ne_bs_, eq_in_, ne_in_, eq_ib_, ne_ib_, eq_is_, ne_is_, eq_sn_, ne_sn_, eq_sb_, ne_sb_, eq_si_, ne_si_, ne_ns_, c_mul, c_fdiv, c_mod, c_pow, c_adds, c_addl, c_ixs, lt600, lt60, lt1000, c_rng1, c_rng2, c_rng3, c_len, c_str, c_int, c_starts, c_indexS, c_sls, Nat.reduceLT, Int.reduceLT, Int.reduceLE, Int.reduceNeg, Int.reduceToNat, Int.reducePow, Int.reduceMul, Int.reduceAdd, Int.reduceSub, Bool.not_true, Bool.not_false, It.slots, E.slot, Nat.reduceBEq, Sc.d, Int.reduceEq, Nat.reduceEqDiff, kk_LF, kk_LL]
  refine for_walk (fun c => D.str [c]) (fun rem en o' => o' = o ∧ ∃ v j s3 s4 s5, en = [.val ⟨.str t, .fz⟩, .val ⟨.str kL, .fz⟩, .val ⟨.int (v : Nat), .fz⟩, s3, s4, s5] ∧ valL rem v = valL t 0 ∧ v < 27 ^ j ∧ j + rem.length ≤ 20) (fun x => fin (Out.seq (x.seq _) _) = _) ?_ ?_ t _ _ ⟨rfl, 0, 0, _, _, _, rfl, rfl, by decide, by omega⟩
  · rintro c r en o' ⟨rfl, v, j, s3, s4, s5, rfl, h1, h2, h3⟩
    have e1 : Op.notIn.ev (.str [c]) (.str abc) = some (.bl (!abc.contains c)) := rfl
    rw [List.length_cons] at h3
    have h27 : 27 ^ j ≤ 27 ^ 20 := Nat.pow_le_pow_right (by decide) (by omega)
    by_cases hcc : abc.contains c = true
    · have e2 : Mt.indexS.ev (.str abc) [.str [c]] = some ⟨.int (posOf c abc), .fz⟩ := c_indexS hcc (by decide)
      have e3 : Op.mul.ev (.int 26) (.int v) = some (.int (26 * v)) := c_mul (by decide) (Nat.lt_of_le_of_lt (m := 27 ^ 20) (by omega) (by decide))
      have e9 : (26 * (v : Int) + (posOf c abc : Int) + 1) = ((26 * v + posOf c abc + 1 : Nat) : Int) := by omega
      have h4 := pos_lt c abc hcc
      rw [abc_len] at h4
      generalize hw : 26 * v + posOf c abc + 1 = w at e9
      simp only [List.length_cons, List.length_nil, Nat.reduceAdd, Nat.reduceLeDiff, if_true, List.map_cons, List.map_nil, Nat.reduceSub, List.replicate_succ, List.replicate_zero, List.cons_append, List.nil_append, List.all_cons, List.all_nil, Bool.and_true, Bool.true_and, Bool.and_self, decide_true, decide_false, Bool.false_or, Bool.or_false, List.contains_nil, if_false, Bool.false_eq_true, le_big, nal_fz, nal_fz', nal_ex', E.isHole, run_eq, reduceIte, cnd_bl, sl_0, sl_s, rd_val, rd_own, rd_ownd, pass_fz, pass_ex, pass_al, bind_ok, bind_bad, out_ok, out_bad, seq_next, seq_ret, seq_brk, seq_cnt, seq_bad, ofO_some, ofO_none, ev_var, ev_int, ev_str, ev_bl, ev_non, ev_glb, ev_op, ngI_int, ev_neg, nt_bl, ev_not, ev_and, ev_or, ev_one, ev_ife, oc_bl, ev_chain, ev_call, ev_bi, ev_isi, ev_mt, ev_ix, ev_sl, toI_int, optI_t, optI_f, ev_lst, ev_tup, ev_nil, ev_cons, ss_nil_, ss_cons_, s_set, s_own, s_par, s_ife, s_for, s_whl, s_drop, s_app, obE_s, loop_1, loop_m, s_ret, s_retN, s_nev, s_brk, s_cnt, s_pass, outO_some, outO_none, lk_nil, lk_cons, st1_0, st1_s, put_fz, put_ex, put_own, putV_nil, putV_cons, putA_nil, putA_cons, fin_next, fin_ret, fin_bad, nal_fz, nal_ex, nal_fz, nal_ex, add_ii, sub_ii, lt_ii, le_ii, gt_ii, ge_ii, is_n, isNot_n, eq_ss, ne_ss, eq_ii, ne_ii, eq_ns, in_ss, notIn_ss, kd_add_i, kd_add_s, kd_add_l, kd_mul_i, kd_sub, kd_fdiv, kd_mod, kd_pow, kd_lt, kd_le, kd_gt, kd_ge, kd_eq, kd_ne, kd_is, kd_isn, kd_in, kd_nin, ix_l, ix_t, ix_scr, map_some_, map_none_, bindO_some, bindO_none, it_any, it_A_t, it_A_s, it_A_l, it_L_fz, it_L_ex, it_L_al, it_r1, it_r2, it_r3, it_enum, it_zip, it_zip3, it_zipA, it_Z_s, it_Z_l, ev_lc, lc_fr_n, lc_fr_v, lc_free, lc_tgIx_1, lc_tgIx_m, obE_R, lc_optK_t, lc_optK_f, lc_noExc_ok, lc_noExc_bad, lc_noExc_exc, lcB_1, lcB_2, lcB_3, isO_own, isO_y, onO_eq, onO_s, bi_len_l, bi_len_scr, bi_len_t, bi_abs, bi_all, bi_any, bi_list, bi_tuple, ix_sl_l, ix_sl_scr, ix_d, ev_dlit, put_ownd, kd_mul_s, kd_mul_l, kd_mul_t, kd_inQ, kd_notInQ, kd_addS, kd_addL, isNon_n, isN_bl, isN_int, isN_str, isN_lst, isN_tup, ty_int_n, ty_int_b, ty_int_i, ty_int_s, ty_int_l, ty_int_t, ty_int_scr, ty_int_d, ty_str_n, ty_str_b, ty_str_i, ty_str_s, ty_str_l, ty_str_t, ty_str_scr, ty_str_d, ty_bool_n, ty_bool_b, ty_bool_i, ty_bool_s, ty_bool_l, ty_bool_t, ty_bool_scr, ty_bool_d, ty_list_n, ty_list_b, ty_list_i, ty_list_s, ty_list_l, ty_list_t, ty_list_scr, ty_list_d, ty_tuple_n, ty_tuple_b, ty_tuple_i, ty_tuple_s, ty_tuple_l, ty_tuple_t, ty_tuple_scr, ty_tuple_d, mtr_split, mtr_join, mtr_starts, mtr_lstrip, mtr_indexS, mtr_indexL, mtr_count, mtr_get1, mtr_get2, eq_nn_, ne_nn_, eq_nb_, ne_nb_, eq_ni_, ne_ni_, eq_bn_, ne_bn_, eq_bb_, ne_bb_, eq_bi_, ne_bi_, eq_bs_, ne_bs_, eq_in_, ne_in_, eq_ib_, ne_ib_, eq_is_, ne_is_, eq_sn_, ne_sn_, eq_sb_, ne_sb_, eq_si_, ne_si_, ne_ns_, c_mul, c_fdiv, c_mod, c_pow, c_adds, c_addl, c_ixs, lt600, lt60, lt1000, c_rng1, c_rng2, c_rng3, c_len, c_str, c_int, c_starts, c_indexS, c_sls, Nat.reduceLT, Int.reduceLT, Int.reduceLE, Int.reduceNeg, Int.reduceToNat, Int.reducePow, Int.reduceMul, Int.reduceAdd, Int.reduceSub, Bool.not_true, Bool.not_false, It.slots, E.slot, Nat.reduceBEq, Sc.d, Int.reduceEq, Nat.reduceEqDiff, hc, e1, hcc, e2, e3, e9]
      subst hw
      refine ⟨rfl, 26 * v + posOf c abc + 1, j + 1, .val ⟨.str [c], .fz⟩, s4, s5, rfl, ?_, ?_, by omega⟩
      · rw [← h1]
        conv => rhs; unfold valL
        rw [if_pos hcc]
      · rw [Nat.pow_succ]; omega
    · have hcc : abc.contains c = false := by simpa using hcc
      simp only [List.length_cons, List.length_nil, Nat.reduceAdd, Nat.reduceLeDiff, if_true, List.map_cons, List.map_nil, Nat.reduceSub, List.replicate_succ, List.replicate_zero, List.cons_append, List.nil_append, List.all_cons, List.all_nil, Bool.and_true, Bool.true_and, Bool.and_self, decide_true, decide_false, Bool.false_or, Bool.or_false, List.contains_nil, if_false, Bool.false_eq_true, le_big, nal_fz, nal_fz', nal_ex', E.isHole, run_eq, reduceIte, cnd_bl, sl_0, sl_s, rd_val, rd_own, rd_ownd, pass_fz, pass_ex, pass_al, bind_ok, bind_bad, out_ok, out_bad, seq_next, seq_ret, seq_brk, seq_cnt, seq_bad, ofO_some, ofO_none, ev_var, ev_int, ev_str, ev_bl, ev_non, ev_glb, ev_op, ngI_int, ev_neg, nt_bl, ev_not, ev_and, ev_or, ev_one, ev_ife, oc_bl, ev_chain, ev_call, ev_bi, ev_isi, ev_mt, ev_ix, ev_sl, toI_int, optI_t, optI_f, ev_lst, ev_tup, ev_nil, ev_cons, ss_nil_, ss_cons_, s_set, s_own, s_par, s_ife, s_for, s_whl, s_drop, s_app, obE_s, loop_1, loop_m, s_ret, s_retN, s_nev, s_brk, s_cnt, s_pass, outO_some, outO_none, lk_nil, lk_cons, st1_0, st1_s, put_fz, put_ex, put_own, putV_nil, putV_cons, putA_nil, putA_cons, fin_next, fin_ret, fin_bad, nal_fz, nal_ex, nal_fz, nal_ex, add_ii, sub_ii, lt_ii, le_ii, gt_ii, ge_ii, is_n, isNot_n, eq_ss, ne_ss, eq_ii, ne_ii, eq_ns, in_ss, notIn_ss, kd_add_i, kd_add_s, kd_add_l, kd_mul_i, kd_sub, kd_fdiv, kd_mod, kd_pow, kd_lt, kd_le, kd_gt, kd_ge, kd_eq, kd_ne, kd_is, kd_isn, kd_in, kd_nin, ix_l, ix_t, ix_scr, map_some_, map_none_, bindO_some, bindO_none, it_any, it_A_t, it_A_s, it_A_l, it_L_fz, it_L_ex, it_L_al, it_r1, it_r2, it_r3, it_enum, it_zip, it_zip3, it_zipA, it_Z_s, it_Z_l, ev_lc, lc_fr_n, lc_fr_v, lc_free, lc_tgIx_1, lc_tgIx_m, obE_R, lc_optK_t, lc_optK_f, lc_noExc_ok, lc_noExc_bad, lc_noExc_exc, lcB_1, lcB_2, lcB_3, isO_own, isO_y, onO_eq, onO_s, bi_len_l, bi_len_scr, bi_len_t, bi_abs, bi_all, bi_any, bi_list, bi_tuple, ix_sl_l, ix_sl_scr, ix_d, ev_dlit, put_ownd, kd_mul_s, kd_mul_l, kd_mul_t, kd_inQ, kd_notInQ, kd_addS, kd_addL, isNon_n, isN_bl, isN_int, isN_str, isN_lst, isN_tup, ty_int_n, ty_int_b, ty_int_i, ty_int_s, ty_int_l, ty_int_t, ty_int_scr, ty_int_d, ty_str_n, ty_str_b, ty_str_i, ty_str_s, ty_str_l, ty_str_t, ty_str_scr, ty_str_d, ty_bool_n, ty_bool_b, ty_bool_i, ty_bool_s, ty_bool_l, ty_bool_t, ty_bool_scr, ty_bool_d, ty_list_n, ty_list_b, ty_list_i, ty_list_s, ty_list_l, ty_list_t, ty_list_scr, ty_list_d, ty_tuple_n, ty_tuple_b, ty_tuple_i, ty_tuple_s, ty_tuple_l, ty_tuple_t, ty_tuple_scr, ty_tuple_d, mtr_split, mtr_join, mtr_starts, mtr_lstrip, mtr_indexS, mtr_indexL, mtr_count, mtr_get1, mtr_get2, eq_nn_, ne_nn_, eq_nb_, ne_nb_, eq_ni_, ne_ni_, eq_bn_, ne_bn_, eq_bb_, ne_bb_, eq_bi_, ne_bi_, eq_bs_, ne_bs_, eq_in_, ne_in_, eq_ib_, ne_ib_, eq_is_, ne_is_, eq_sn_, ne_sn_, eq_sb_, ne_sb_, eq_si_, ne_si_, ne_ns_, c_mul, c_fdiv, c_mod, c_pow, c_adds, c_addl, c_ixs, lt600, lt60, lt1000, c_rng1, c_rng2, c_rng3, c_len, c_str, c_int, c_starts, c_indexS, c_sls, Nat.reduceLT, Int.reduceLT, Int.reduceLE, Int.reduceNeg, Int.reduceToNat, Int.reducePow, Int.reduceMul, Int.reduceAdd, Int.reduceSub, Bool.not_true, Bool.not_false, It.slots, E.slot, Nat.reduceBEq, Sc.d, Int.reduceEq, Nat.reduceEqDiff, hc, e1, hcc]
      show fin _ = _
      simp only [List.length_cons, List.length_nil, Nat.reduceAdd, Nat.reduceLeDiff, if_true, List.map_cons, List.map_nil, Nat.reduceSub, List.replicate_succ, List.replicate_zero, List.cons_append, List.nil_append, List.all_cons, List.all_nil, Bool.and_true, Bool.true_and, Bool.and_self, decide_true, decide_false, Bool.false_or, Bool.or_false, List.contains_nil, if_false, Bool.false_eq_true, le_big, nal_fz, nal_fz', nal_ex', E.isHole, run_eq, reduceIte, cnd_bl, sl_0, sl_s, rd_val, rd_own, rd_ownd, pass_fz, pass_ex, pass_al, bind_ok, bind_bad, out_ok, out_bad, seq_next, seq_ret, seq_brk, seq_cnt, seq_bad, ofO_some, ofO_none, ev_var, ev_int, ev_str, ev_bl, ev_non, ev_glb, ev_op, ngI_int, ev_neg, nt_bl, ev_not, ev_and, ev_or, ev_one, ev_ife, oc_bl, ev_chain, ev_call, ev_bi, ev_isi, ev_mt, ev_ix, ev_sl, toI_int, optI_t, optI_f, ev_lst, ev_tup, ev_nil, ev_cons, ss_nil_, ss_cons_, s_set, s_own, s_par, s_ife, s_for, s_whl, s_drop, s_app, obE_s, loop_1, loop_m, s_ret, s_retN, s_nev, s_brk, s_cnt, s_pass, outO_some, outO_none, lk_nil, lk_cons, st1_0, st1_s, put_fz, put_ex, put_own, putV_nil, putV_cons, putA_nil, putA_cons, fin_next, fin_ret, fin_bad, nal_fz, nal_ex, nal_fz, nal_ex, add_ii, sub_ii, lt_ii, le_ii, gt_ii, ge_ii, is_n, isNot_n, eq_ss, ne_ss, eq_ii, ne_ii, eq_ns, in_ss, notIn_ss, kd_add_i, kd_add_s, kd_add_l, kd_mul_i, kd_sub, kd_fdiv, kd_mod, kd_pow, kd_lt, kd_le, kd_gt, kd_ge, kd_eq, kd_ne, kd_is, kd_isn, kd_in, kd_nin, ix_l, ix_t, ix_scr, map_some_, map_none_, bindO_some, bindO_none, it_any, it_A_t, it_A_s, it_A_l, it_L_fz, it_L_ex, it_L_al, it_r1, it_r2, it_r3, it_enum, it_zip, it_zip3, it_zipA, it_Z_s, it_Z_l, ev_lc, lc_fr_n, lc_fr_v, lc_free, lc_tgIx_1, lc_tgIx_m, obE_R, lc_optK_t, lc_optK_f, lc_noExc_ok, lc_noExc_bad, lc_noExc_exc, lcB_1, lcB_2, lcB_3, isO_own, isO_y, onO_eq, onO_s, bi_len_l, bi_len_scr, bi_len_t, bi_abs, bi_all, bi_any, bi_list, bi_tuple, ix_sl_l, ix_sl_scr, ix_d, ev_dlit, put_ownd, kd_mul_s, kd_mul_l, kd_mul_t, kd_inQ, kd_notInQ, kd_addS, kd_addL, isNon_n, isN_bl, isN_int, isN_str, isN_lst, isN_tup, ty_int_n, ty_int_b, ty_int_i, ty_int_s, ty_int_l, ty_int_t, ty_int_scr, ty_int_d, ty_str_n, ty_str_b, ty_str_i, ty_str_s, ty_str_l, ty_str_t, ty_str_scr, ty_str_d, ty_bool_n, ty_bool_b, ty_bool_i, ty_bool_s, ty_bool_l, ty_bool_t, ty_bool_scr, ty_bool_d, ty_list_n, ty_list_b, ty_list_i, ty_list_s, ty_list_l, ty_list_t, ty_list_scr, ty_list_d, ty_tuple_n, ty_tuple_b, ty_tuple_i, ty_tuple_s, ty_tuple_l, ty_tuple_t, ty_tuple_scr, ty_tuple_d, mtr_split, mtr_join, mtr_starts, mtr_lstrip, mtr_indexS, mtr_indexL, mtr_count, mtr_get1, mtr_get2, eq_nn_, ne_nn_, eq_nb_, ne_nb_, eq_ni_, ne_ni_, eq_bn_, ne_bn_, eq_bb_, ne_bb_, eq_bi_, ne_bi_, eq_bs_, ne_bs_, eq_in_, ne_in_, eq_ib_, ne_ib_, eq_is_, ne_is_, eq_sn_, ne_sn_, eq_sb_, ne_sb_, eq_si_, ne_si_, ne_ns_, c_mul, c_fdiv, c_mod, c_pow, c_adds, c_addl, c_ixs, lt600, lt60, lt1000, c_rng1, c_rng2, c_rng3, c_len, c_str, c_int, c_starts, c_indexS, c_sls, Nat.reduceLT, Int.reduceLT, Int.reduceLE, Int.reduceNeg, Int.reduceToNat, Int.reducePow, Int.reduceMul, Int.reduceAdd, Int.reduceSub, Bool.not_true, Bool.not_false, It.slots, E.slot, Nat.reduceBEq, Sc.d, Int.reduceEq, Nat.reduceEqDiff, ← h1]
      rw [show valL (c :: r) v = if abc.contains c then valL r (26 * v + posOf c abc + 1) else 0 from rfl, hcc]
      rfl
  · rintro en o' ⟨rfl, v, j, s3, s4, s5, rfl, h1, h2, h3⟩
    have h1 : v = valL t 0 := h1
    simp only [List.length_cons, List.length_nil, Nat.reduceAdd, Nat.reduceLeDiff, if_true, List.map_cons, List.map_nil, Nat.reduceSub, List.replicate_succ, List.replicate_zero, List.cons_append, List.nil_append, List.all_cons, List.all_nil, Bool.and_true, Bool.true_and, Bool.and_self, decide_true, decide_false, Bool.false_or, Bool.or_false, List.contains_nil, if_false, Bool.false_eq_true, le_big, nal_fz, nal_fz', nal_ex', E.isHole, run_eq, reduceIte, cnd_bl, sl_0, sl_s, rd_val, rd_own, rd_ownd, pass_fz, pass_ex, pass_al, bind_ok, bind_bad, out_ok, out_bad, seq_next, seq_ret, seq_brk, seq_cnt, seq_bad, ofO_some, ofO_none, ev_var, ev_int, ev_str, ev_bl, ev_non, ev_glb, ev_op, ngI_int, ev_neg, nt_bl, ev_not, ev_and, ev_or, ev_one, ev_ife, oc_bl, ev_chain, ev_call, ev_bi, ev_isi, ev_mt, ev_ix, ev_sl, toI_int, optI_t, optI_f, ev_lst, ev_tup, ev_nil, ev_cons, ss_nil_, ss_cons_, s_set, s_own, s_par, s_ife, s_for, s_whl, s_drop, s_app, obE_s, loop_1, loop_m, s_ret, s_retN, s_nev, s_brk, s_cnt, s_pass, outO_some, outO_none, lk_nil, lk_cons, st1_0, st1_s, put_fz, put_ex, put_own, putV_nil, putV_cons, putA_nil, putA_cons, fin_next, fin_ret, fin_bad, nal_fz, nal_ex, nal_fz, nal_ex, add_ii, sub_ii, lt_ii, le_ii, gt_ii, ge_ii, is_n, isNot_n, eq_ss, ne_ss, eq_ii, ne_ii, eq_ns, in_ss, notIn_ss, kd_add_i, kd_add_s, kd_add_l, kd_mul_i, kd_sub, kd_fdiv, kd_mod, kd_pow, kd_lt, kd_le, kd_gt, kd_ge, kd_eq, kd_ne, kd_is, kd_isn, kd_in, kd_nin, ix_l, ix_t, ix_scr, map_some_, map_none_, bindO_some, bindO_none, it_any, it_A_t, it_A_s, it_A_l, it_L_fz, it_L_ex, it_L_al, it_r1, it_r2, it_r3, it_enum, it_zip, it_zip3, it_zipA, it_Z_s, it_Z_l, ev_lc, lc_fr_n, lc_fr_v, lc_free, lc_tgIx_1, lc_tgIx_m, obE_R, lc_optK_t, lc_optK_f, lc_noExc_ok, lc_noExc_bad, lc_noExc_exc, lcB_1, lcB_2, lcB_3, isO_own, isO_y, onO_eq, onO_s, bi_len_l, bi_len_scr, bi_len_t, bi_abs, bi_all, bi_any, bi_list, bi_tuple, ix_sl_l, ix_sl_scr, ix_d, ev_dlit, put_ownd, kd_mul_s, kd_mul_l, kd_mul_t, kd_inQ, kd_notInQ, kd_addS, kd_addL, isNon_n, isN_bl, isN_int, isN_str, isN_lst, isN_tup, ty_int_n, ty_int_b, ty_int_i, ty_int_s, ty_int_l, ty_int_t, ty_int_scr, ty_int_d, ty_str_n, ty_str_b, ty_str_i, ty_str_s, ty_str_l, ty_str_t, ty_str_scr, ty_str_d, ty_bool_n, ty_bool_b, ty_bool_i, ty_bool_s, ty_bool_l, ty_bool_t, ty_bool_scr, ty_bool_d, ty_list_n, ty_list_b, ty_list_i, ty_list_s, ty_list_l, ty_list_t, ty_list_scr, ty_list_d, ty_tuple_n, ty_tuple_b, ty_tuple_i, ty_tuple_s, ty_tuple_l, ty_tuple_t, ty_tuple_scr, ty_tuple_d, mtr_split, mtr_join, mtr_starts, mtr_lstrip, mtr_indexS, mtr_indexL, mtr_count, mtr_get1, mtr_get2, eq_nn_, ne_nn_, eq_nb_, ne_nb_, eq_ni_, ne_ni_, eq_bn_, ne_bn_, eq_bb_, ne_bb_, eq_bi_, ne_bi_, eq_bs_, ne_bs_, eq_in_, ne_in_, eq_ib_, ne_ib_, eq_is_, ne_is_, eq_sn_, ne_sn_, eq_sb_, ne_sb_, eq_si_, ne_si_, ne_ns_, c_mul, c_fdiv, c_mod, c_pow, c_adds, c_addl, c_ixs, lt600, lt60, lt1000, c_rng1, c_rng2, c_rng3, c_len, c_str, c_int, c_starts, c_indexS, c_sls, Nat.reduceLT, Int.reduceLT, Int.reduceLE, Int.reduceNeg, Int.reduceToNat, Int.reducePow, Int.reduceMul, Int.reduceAdd, Int.reduceSub, Bool.not_true, Bool.not_false, It.slots, E.slot, Nat.reduceBEq, Sc.d, Int.reduceEq, Nat.reduceEqDiff, h1]
theorem valR_nil (u : Txt) (v : Nat) : valR [] u v = if u = [] then v else 0 := rfl
theorem w2R (hc : G.ct 3 = .tup (pieces.map pcD)) (t : Txt) (ht : t.length ≤ 20) : runDef G b_value_of 6 [⟨.str t, .fz⟩, ⟨.str kR, .fz⟩] o = .ok ⟨.int (valOf t kR), .fz⟩ o := by
  unfold b_value_of
  rw [show valOf t kR = valR pieces t 0 by unfold valOf; rw [if_neg (by decide), if_neg (by decide)]]
  obtain ⟨F, hF⟩ : ∃ F, valR pieces t 0 = F := ⟨_, rfl⟩
  rw [hF]
  simp only [List.length_cons, List.length_nil, Nat.reduceAdd, Nat.reduceLeDiff, if_true, List.map_cons, List.map_nil, Nat.reduceSub, List.replicate_succ, List.replicate_zero, List.cons_append, List.nil_append, List.all_cons, List.all_nil, Bool.and_true, Bool.true_and, Bool.and_self, decide_true, decide_false, Bool.false_or, Bool.or_false, List.contains_nil, if_false, Bool.false_eq_true, le_big, nal_fz, nal_fz', nal_ex', E.isHole, run_eq, reduceIte, cnd_bl, sl_0, sl_s, rd_val, rd_own, rd_ownd, pass_fz, pass_ex, pass_al, bind_ok, bind_bad, out_ok, out_bad, seq_next, seq_ret, seq_brk, seq_cnt, seq_bad, ofO_some, ofO_none, ev_var, ev_int, ev_str, ev_bl, ev_non, ev_glb, ev_op, ngI_int, ev_neg, nt_bl, ev_not, ev_and, ev_or, ev_one, ev_ife, oc_bl, ev_chain, ev_call, ev_bi, ev_isi, ev_mt, ev_ix, ev_sl, toI_int, optI_t, optI_f, ev_lst, ev_tup, ev_nil, ev_cons, ss_nil_, ss_cons_, s_set, s_own, s_par, s_ife, s_for, s_whl, s_drop, s_app, obE_s, loop_1, loop_m, s_ret, s_retN, s_nev, s_brk, s_cnt, s_pass, outO_some, outO_none, lk_nil, lk_cons, st1_0, st1_s, put_fz, put_ex, put_own, putV_nil, putV_cons, putA_nil, putA_cons, fin_next, fin_ret, fin_bad, nal_fz, nal_ex, nal_fz, nal_ex, add_ii, sub_ii, lt_ii, le_ii, gt_ii, ge_ii, is_n, isNot_n, eq_ss, ne_ss, eq_ii, ne_ii, eq_ns, in_ss, notIn_ss, kd_add_i, kd_add_s, kd_add_l, kd_mul_i, kd_sub, kd_fdiv, kd_mod, kd_pow, kd_lt, kd_le, kd_gt, kd_ge, kd_eq, kd_ne, kd_is, kd_isn, kd_in, kd_nin, ix_l, ix_t, ix_scr, map_some_, map_none_, bindO_some, bindO_none, it_any, it_A_t, it_A_s, it_A_l, it_L_fz, it_L_ex, it_L_al, it_r1, it_r2, it_r3, it_enum, it_zip, it_zip3, it_zipA, it_Z_s, it_Z_l, ev_lc, lc_fr_n, lc_fr_v, lc_free, lc_tgIx_1, lc_tgIx_m, obE_R, lc_optK_t, lc_optK_f, lc_noExc_ok, lc_noExc_bad, lc_noExc_exc, lcB_1, lcB_2, lcB_3, isO_own, isO_y, onO_eq, onO_s, bi_len_l, bi_len_scr, bi_len_t, bi_abs, bi_all, bi_any, bi_list, bi_tuple, ix_sl_l, ix_sl_scr, ix_d, ev_dlit, put_ownd, kd_mul_s, kd_mul_l, kd_mul_t, kd_inQ, kd_notInQ, kd_addS, kd_addL, isNon_n, isN_bl, isN_int, isN_str, isN_lst, isN_tup, ty_int_n, ty_int_b, ty_int_i, ty_int_s, ty_int_l, ty_int_t, ty_int_scr, ty_int_d, ty_str_n, ty_str_b, ty_str_i, ty_str_s, ty_str_l, ty_str_t, ty_str_scr, ty_str_d, ty_bool_n, ty_bool_b, ty_bool_i, ty_bool_s, ty_bool_l, ty_bool_t, ty_bool_scr, ty_bool_d, ty_list_n, ty_list_b, ty_list_i, ty_list_s, ty_list_l, ty_list_t, ty_list_scr, ty_list_d, ty_tuple_n, ty_tuple_b, ty_tuple_i, ty_tuple_s, ty_tuple_l, ty_tuple_t, ty_tuple_scr, ty_tuple_d, mtr_split, mtr_join, mtr_starts, mtr_lstrip, mtr_indexS, mtr_indexL, mtr_count, mtr_get1, mtr_get2, eq_nn_, ne_nn_, eq_nb_, ne_nb_, eq_ni_, ne_ni_, eq_bn_, ne_bn_, eq_bb_, ne_bb_, eq_bi_, ne_bi_, eq_bs_, ne_bs_, eq_in_, ne_in_, eq_ib_, ne_ib_, eq_is_, ne_is_, eq_sn_, ne_sn_, eq_sb_, ne_sb_, eq_si_, ne_si_, ne_ns_, c_mul, c_fdiv, c_mod, c_pow, c_adds, c_addl, c_ixs, lt600, lt60, lt1000, c_rng1, c_rng2, c_rng3, c_len, c_str, c_int, c_starts, c_indexS, c_sls, Nat.reduceLT, Int.reduceLT, Int.reduceLE, Int.reduceNeg, Int.reduceToNat, Int.reducePow, Int.reduceMul, Int.reduceAdd, Int.reduceSub, Bool.not_true, Bool.not_false, It.slots, E.slot, Nat.reduceBEq, Sc.d, Int.reduceEq, Nat.reduceEqDiff, kk_RF, kk_RL, hc]
  refine for_walk pcD (fun rem en o' => o' = o ∧ (rem.all okP = true) ∧ ∃ (u : Txt) (v : Nat) (s3 s4 s5 : Slot), en = [.val ⟨.str u, .fz⟩, .val ⟨.str kR, .fz⟩, .val ⟨.int v, .fz⟩, s3, s4, s5] ∧ valR rem u v = F ∧ u.length ≤ 20) (fun x => fin (x.seq _) = _) ?_ ?_ pieces _ _ ⟨rfl, by decide, t, 0, _, _, _, rfl, hF, ht⟩
  · rintro ⟨w, p⟩ r en o' ⟨rfl, hok, u, v, s3, s4, s5, rfl, h1, h2⟩
    simp only [List.all_cons, okP, Bool.and_eq_true, decide_eq_true_eq] at hok
    obtain ⟨⟨⟨hw, hp⟩, hp0⟩, hok⟩ := hok
    simp only [pcD]
    simp only [List.length_cons, List.length_nil, Nat.reduceAdd, Nat.reduceLeDiff, if_true, List.map_cons, List.map_nil, Nat.reduceSub, List.replicate_succ, List.replicate_zero, List.cons_append, List.nil_append, List.all_cons, List.all_nil, Bool.and_true, Bool.true_and, Bool.and_self, decide_true, decide_false, Bool.false_or, Bool.or_false, List.contains_nil, if_false, Bool.false_eq_true, le_big, nal_fz, nal_fz', nal_ex', E.isHole, run_eq, reduceIte, cnd_bl, sl_0, sl_s, rd_val, rd_own, rd_ownd, pass_fz, pass_ex, pass_al, bind_ok, bind_bad, out_ok, out_bad, seq_next, seq_ret, seq_brk, seq_cnt, seq_bad, ofO_some, ofO_none, ev_var, ev_int, ev_str, ev_bl, ev_non, ev_glb, ev_op, ngI_int, ev_neg, nt_bl, ev_not, ev_and, ev_or, ev_one, ev_ife, oc_bl, ev_chain, ev_call, ev_bi, ev_isi, ev_mt, ev_ix, ev_sl, toI_int, optI_t, optI_f, ev_lst, ev_tup, ev_nil, ev_cons, ss_nil_, ss_cons_, s_set, s_own, s_par, s_ife, s_for, s_whl, s_drop, s_app, obE_s, loop_1, loop_m, s_ret, s_retN, s_nev, s_brk, s_cnt, s_pass, outO_some, outO_none, lk_nil, lk_cons, st1_0, st1_s, put_fz, put_ex, put_own, putV_nil, putV_cons, putA_nil, putA_cons, fin_next, fin_ret, fin_bad, nal_fz, nal_ex, nal_fz, nal_ex, add_ii, sub_ii, lt_ii, le_ii, gt_ii, ge_ii, is_n, isNot_n, eq_ss, ne_ss, eq_ii, ne_ii, eq_ns, in_ss, notIn_ss, kd_add_i, kd_add_s, kd_add_l, kd_mul_i, kd_sub, kd_fdiv, kd_mod, kd_pow, kd_lt, kd_le, kd_gt, kd_ge, kd_eq, kd_ne, kd_is, kd_isn, kd_in, kd_nin, ix_l, ix_t, ix_scr, map_some_, map_none_, bindO_some, bindO_none, it_any, it_A_t, it_A_s, it_A_l, it_L_fz, it_L_ex, it_L_al, it_r1, it_r2, it_r3, it_enum, it_zip, it_zip3, it_zipA, it_Z_s, it_Z_l, ev_lc, lc_fr_n, lc_fr_v, lc_free, lc_tgIx_1, lc_tgIx_m, obE_R, lc_optK_t, lc_optK_f, lc_noExc_ok, lc_noExc_bad, lc_noExc_exc, lcB_1, lcB_2, lcB_3, isO_own, isO_y, onO_eq, onO_s, bi_len_l, bi_len_scr, bi_len_t, bi_abs, bi_all, bi_any, bi_list, bi_tuple, ix_sl_l, ix_sl_scr, ix_d, ev_dlit, put_ownd, kd_mul_s, kd_mul_l, kd_mul_t, kd_inQ, kd_notInQ, kd_addS, kd_addL, isNon_n, isN_bl, isN_int, isN_str, isN_lst, isN_tup, ty_int_n, ty_int_b, ty_int_i, ty_int_s, ty_int_l, ty_int_t, ty_int_scr, ty_int_d, ty_str_n, ty_str_b, ty_str_i, ty_str_s, ty_str_l, ty_str_t, ty_str_scr, ty_str_d, ty_bool_n, ty_bool_b, ty_bool_i, ty_bool_s, ty_bool_l, ty_bool_t, ty_bool_scr, ty_bool_d, ty_list_n, ty_list_b, ty_list_i, ty_list_s, ty_list_l, ty_list_t, ty_list_scr, ty_list_d, ty_tuple_n, ty_tuple_b, ty_tuple_i, ty_tuple_s, ty_tuple_l, ty_tuple_t, ty_tuple_scr, ty_tuple_d, mtr_split, mtr_join, mtr_starts, mtr_lstrip, mtr_indexS, mtr_indexL, mtr_count, mtr_get1, mtr_get2, eq_nn_, ne_nn_, eq_nb_, ne_nb_, eq_ni_, ne_ni_, eq_bn_, ne_bn_, eq_bb_, ne_bb_, eq_bi_, ne_bi_, eq_bs_, ne_bs_, eq_in_, ne_in_, eq_ib_, ne_ib_, eq_is_, ne_is_, eq_sn_, ne_sn_, eq_sb_, ne_sb_, eq_si_, ne_si_, ne_ns_, c_mul, c_fdiv, c_mod, c_pow, c_adds, c_addl, c_ixs, lt600, lt60, lt1000, c_rng1, c_rng2, c_rng3, c_len, c_str, c_int, c_starts, c_indexS, c_sls, Nat.reduceLT, Int.reduceLT, Int.reduceLE, Int.reduceNeg, Int.reduceToNat, Int.reducePow, Int.reduceMul, Int.reduceAdd, Int.reduceSub, Bool.not_true, Bool.not_false, It.slots, E.slot, Nat.reduceBEq, Sc.d, Int.reduceEq, Nat.reduceEqDiff]
    refine whl_walk (fun q en o'' => o'' = o' ∧ ∃ (u' : Txt) (v' : Nat), u'.length = q ∧ en = [.val ⟨.str u', .fz⟩, .val ⟨.str kR, .fz⟩, .val ⟨.int v', .fz⟩, s3, .val ⟨.int w, .fz⟩, .val ⟨.str p, .fz⟩] ∧ eat p w u'.length u' v' = eat p w u.length u v ∧ u'.length ≤ 20) (fun x => Step _ _ (x.seq _)) ?_ 100000 u.length _ _ (by omega) ⟨rfl, u, v, rfl, rfl, rfl, h2⟩
    rintro q en o'' ⟨rfl, u', v', hq, rfl, h3, h4⟩
    have e0 : Mt.starts.ev (.str u') [.str p] = some ⟨.bl (p.isPrefixOf u'), .fz⟩ := c_starts (by show _ ≤ 1000000; omega) (by show _ ≤ 1000000; omega)
    refine ⟨p.isPrefixOf u', .fz, by simp only [List.length_cons, List.length_nil, Nat.reduceAdd, Nat.reduceLeDiff, if_true, List.map_cons, List.map_nil, Nat.reduceSub, List.replicate_succ, List.replicate_zero, List.cons_append, List.nil_append, List.all_cons, List.all_nil, Bool.and_true, Bool.true_and, Bool.and_self, decide_true, decide_false, Bool.false_or, Bool.or_false, List.contains_nil, if_false, Bool.false_eq_true, le_big, nal_fz, nal_fz', nal_ex', E.isHole, run_eq, reduceIte, cnd_bl, sl_0, sl_s, rd_val, rd_own, rd_ownd, pass_fz, pass_ex, pass_al, bind_ok, bind_bad, out_ok, out_bad, seq_next, seq_ret, seq_brk, seq_cnt, seq_bad, ofO_some, ofO_none, ev_var, ev_int, ev_str, ev_bl, ev_non, ev_glb, ev_op, ngI_int, ev_neg, nt_bl, ev_not, ev_and, ev_or, ev_one, ev_ife, oc_bl, ev_chain, ev_call, ev_bi, ev_isi, ev_mt, ev_ix, ev_sl, toI_int, optI_t, optI_f, ev_lst, ev_tup, ev_nil, ev_cons, ss_nil_, ss_cons_, s_set, s_own, s_par, s_ife, s_for, s_whl, s_drop, s_app, obE_s, loop_1, loop_m, s_ret, s_retN, s_nev, s_brk, s_cnt, s_pass, outO_some, outO_none, lk_nil, lk_cons, st1_0, st1_s, put_fz, put_ex, put_own, putV_nil, putV_cons, putA_nil, putA_cons, fin_next, fin_ret, fin_bad, nal_fz, nal_ex, nal_fz, nal_ex, add_ii, sub_ii, lt_ii, le_ii, gt_ii, ge_ii, is_n, isNot_n, eq_ss, ne_ss, eq_ii, ne_ii, eq_ns, in_ss, notIn_ss, kd_add_i, kd_add_s, kd_add_l, kd_mul_i, kd_sub, kd_fdiv, kd_mod, kd_pow, kd_lt, kd_le, kd_gt, kd_ge, kd_eq, kd_ne, kd_is, kd_isn, kd_in, kd_nin, ix_l, ix_t, ix_scr, map_some_, map_none_, bindO_some, bindO_none, it_any, it_A_t, it_A_s, it_A_l, it_L_fz, it_L_ex, it_L_al, it_r1, it_r2, it_r3, it_enum, it_zip, it_zip3, it_zipA, it_Z_s, it_Z_l, ev_lc, lc_fr_n, lc_fr_v, lc_free, lc_tgIx_1, lc_tgIx_m, obE_R, lc_optK_t, lc_optK_f, lc_noExc_ok, lc_noExc_bad, lc_noExc_exc, lcB_1, lcB_2, lcB_3, isO_own, isO_y, onO_eq, onO_s, bi_len_l, bi_len_scr, bi_len_t, bi_abs, bi_all, bi_any, bi_list, bi_tuple, ix_sl_l, ix_sl_scr, ix_d, ev_dlit, put_ownd, kd_mul_s, kd_mul_l, kd_mul_t, kd_inQ, kd_notInQ, kd_addS, kd_addL, isNon_n, isN_bl, isN_int, isN_str, isN_lst, isN_tup, ty_int_n, ty_int_b, ty_int_i, ty_int_s, ty_int_l, ty_int_t, ty_int_scr, ty_int_d, ty_str_n, ty_str_b, ty_str_i, ty_str_s, ty_str_l, ty_str_t, ty_str_scr, ty_str_d, ty_bool_n, ty_bool_b, ty_bool_i, ty_bool_s, ty_bool_l, ty_bool_t, ty_bool_scr, ty_bool_d, ty_list_n, ty_list_b, ty_list_i, ty_list_s, ty_list_l, ty_list_t, ty_list_scr, ty_list_d, ty_tuple_n, ty_tuple_b, ty_tuple_i, ty_tuple_s, ty_tuple_l, ty_tuple_t, ty_tuple_scr, ty_tuple_d, mtr_split, mtr_join, mtr_starts, mtr_lstrip, mtr_indexS, mtr_indexL, mtr_count, mtr_get1, mtr_get2, eq_nn_, ne_nn_, eq_nb_, ne_nb_, eq_ni_, ne_ni_, eq_bn_, ne_bn_, eq_bb_, ne_bb_, eq_bi_, ne_bi_, eq_bs_, ne_bs_, eq_in_, ne_in_, eq_ib_, ne_ib_, eq_is_, ne_is_, eq_sn_, ne_sn_, eq_sb_, ne_sb_, eq_si_, ne_si_, ne_ns_, c_mul, c_fdiv, c_mod, c_pow, c_adds, c_addl, c_ixs, lt600, lt60, lt1000, c_rng1, c_rng2, c_rng3, c_len, c_str, c_int, c_starts, c_indexS, c_sls, Nat.reduceLT, Int.reduceLT, Int.reduceLE, Int.reduceNeg, Int.reduceToNat, Int.reducePow, Int.reduceMul, Int.reduceAdd, Int.reduceSub, Bool.not_true, Bool.not_false, It.slots, E.slot, Nat.reduceBEq, Sc.d, Int.reduceEq, Nat.reduceEqDiff, e0], ?_⟩
    by_cases hm : p.isPrefixOf u' = true
    · rw [if_pos hm]
      have e1 : Bi.len.ev [.str p] = some ⟨.int p.length, .fz⟩ := c_len (by show _ ≤ 1000000; omega)
      have e2 : slEv (.str u') (some (p.length : Int)) none = some ⟨.str (u'.drop p.length), .fz⟩ := by rw [c_sls _ _ (by show _ ≤ 1000000; omega), cut_drop]
      have e9 : ((v' : Int) + (w : Int)) = ((v' + w : Nat) : Int) := by omega
      generalize hvw : v' + w = vw at e9
      simp only [List.length_cons, List.length_nil, Nat.reduceAdd, Nat.reduceLeDiff, if_true, List.map_cons, List.map_nil, Nat.reduceSub, List.replicate_succ, List.replicate_zero, List.cons_append, List.nil_append, List.all_cons, List.all_nil, Bool.and_true, Bool.true_and, Bool.and_self, decide_true, decide_false, Bool.false_or, Bool.or_false, List.contains_nil, if_false, Bool.false_eq_true, le_big, nal_fz, nal_fz', nal_ex', E.isHole, run_eq, reduceIte, cnd_bl, sl_0, sl_s, rd_val, rd_own, rd_ownd, pass_fz, pass_ex, pass_al, bind_ok, bind_bad, out_ok, out_bad, seq_next, seq_ret, seq_brk, seq_cnt, seq_bad, ofO_some, ofO_none, ev_var, ev_int, ev_str, ev_bl, ev_non, ev_glb, ev_op, ngI_int, ev_neg, nt_bl, ev_not, ev_and, ev_or, ev_one, ev_ife, oc_bl, ev_chain, ev_call, ev_bi, ev_isi, ev_mt, ev_ix, ev_sl, toI_int, optI_t, optI_f, ev_lst, ev_tup, ev_nil, ev_cons, ss_nil_, ss_cons_, s_set, s_own, s_par, s_ife, s_for, s_whl, s_drop, s_app, obE_s, loop_1, loop_m, s_ret, s_retN, s_nev, s_brk, s_cnt, s_pass, outO_some, outO_none, lk_nil, lk_cons, st1_0, st1_s, put_fz, put_ex, put_own, putV_nil, putV_cons, putA_nil, putA_cons, fin_next, fin_ret, fin_bad, nal_fz, nal_ex, nal_fz, nal_ex, add_ii, sub_ii, lt_ii, le_ii, gt_ii, ge_ii, is_n, isNot_n, eq_ss, ne_ss, eq_ii, ne_ii, eq_ns, in_ss, notIn_ss, kd_add_i, kd_add_s, kd_add_l, kd_mul_i, kd_sub, kd_fdiv, kd_mod, kd_pow, kd_lt, kd_le, kd_gt, kd_ge, kd_eq, kd_ne, kd_is, kd_isn, kd_in, kd_nin, ix_l, ix_t, ix_scr, map_some_, map_none_, bindO_some, bindO_none, it_any, it_A_t, it_A_s, it_A_l, it_L_fz, it_L_ex, it_L_al, it_r1, it_r2, it_r3, it_enum, it_zip, it_zip3, it_zipA, it_Z_s, it_Z_l, ev_lc, lc_fr_n, lc_fr_v, lc_free, lc_tgIx_1, lc_tgIx_m, obE_R, lc_optK_t, lc_optK_f, lc_noExc_ok, lc_noExc_bad, lc_noExc_exc, lcB_1, lcB_2, lcB_3, isO_own, isO_y, onO_eq, onO_s, bi_len_l, bi_len_scr, bi_len_t, bi_abs, bi_all, bi_any, bi_list, bi_tuple, ix_sl_l, ix_sl_scr, ix_d, ev_dlit, put_ownd, kd_mul_s, kd_mul_l, kd_mul_t, kd_inQ, kd_notInQ, kd_addS, kd_addL, isNon_n, isN_bl, isN_int, isN_str, isN_lst, isN_tup, ty_int_n, ty_int_b, ty_int_i, ty_int_s, ty_int_l, ty_int_t, ty_int_scr, ty_int_d, ty_str_n, ty_str_b, ty_str_i, ty_str_s, ty_str_l, ty_str_t, ty_str_scr, ty_str_d, ty_bool_n, ty_bool_b, ty_bool_i, ty_bool_s, ty_bool_l, ty_bool_t, ty_bool_scr, ty_bool_d, ty_list_n, ty_list_b, ty_list_i, ty_list_s, ty_list_l, ty_list_t, ty_list_scr, ty_list_d, ty_tuple_n, ty_tuple_b, ty_tuple_i, ty_tuple_s, ty_tuple_l, ty_tuple_t, ty_tuple_scr, ty_tuple_d, mtr_split, mtr_join, mtr_starts, mtr_lstrip, mtr_indexS, mtr_indexL, mtr_count, mtr_get1, mtr_get2, eq_nn_, ne_nn_, eq_nb_, ne_nb_, eq_ni_, ne_ni_, eq_bn_, ne_bn_, eq_bb_, ne_bb_, eq_bi_, ne_bi_, eq_bs_, ne_bs_, eq_in_, ne_in_, eq_ib_, ne_ib_, eq_is_, ne_is_, eq_sn_, ne_sn_, eq_sb_, ne_sb_, eq_si_, ne_si_, ne_ns_, c_mul, c_fdiv, c_mod, c_pow, c_adds, c_addl, c_ixs, lt600, lt60, lt1000, c_rng1, c_rng2, c_rng3, c_len, c_str, c_int, c_starts, c_indexS, c_sls, Nat.reduceLT, Int.reduceLT, Int.reduceLE, Int.reduceNeg, Int.reduceToNat, Int.reducePow, Int.reduceMul, Int.reduceAdd, Int.reduceSub, Bool.not_true, Bool.not_false, It.slots, E.slot, Nat.reduceBEq, Sc.d, Int.reduceEq, Nat.reduceEqDiff, e1, e2, e9]
      subst hvw
      have hpl : 0 < p.length := List.length_pos_iff.2 hp0
      have hpp : p.length ≤ u'.length := (List.isPrefixOf_iff_prefix.1 hm).length_le
      refine ⟨(u'.drop p.length).length, by rw [List.length_drop]; omega, rfl, u'.drop p.length, v' + w, rfl, rfl, ?_, by rw [List.length_drop]; omega⟩
      rw [← h3]
      obtain ⟨f, hf⟩ : ∃ f, u'.length = f + 1 := ⟨u'.length - 1, by omega⟩
      rw [hf]
      conv => rhs; unfold eat
      rw [if_pos hm]
      exact eat_fuel p w hp0 _ _ _ _ (Nat.le_refl _) (by rw [List.length_drop]; omega)
    · rw [if_neg hm]
      simp only [List.length_cons, List.length_nil, Nat.reduceAdd, Nat.reduceLeDiff, if_true, List.map_cons, List.map_nil, Nat.reduceSub, List.replicate_succ, List.replicate_zero, List.cons_append, List.nil_append, List.all_cons, List.all_nil, Bool.and_true, Bool.true_and, Bool.and_self, decide_true, decide_false, Bool.false_or, Bool.or_false, List.contains_nil, if_false, Bool.false_eq_true, le_big, nal_fz, nal_fz', nal_ex', E.isHole, run_eq, reduceIte, cnd_bl, sl_0, sl_s, rd_val, rd_own, rd_ownd, pass_fz, pass_ex, pass_al, bind_ok, bind_bad, out_ok, out_bad, seq_next, seq_ret, seq_brk, seq_cnt, seq_bad, ofO_some, ofO_none, ev_var, ev_int, ev_str, ev_bl, ev_non, ev_glb, ev_op, ngI_int, ev_neg, nt_bl, ev_not, ev_and, ev_or, ev_one, ev_ife, oc_bl, ev_chain, ev_call, ev_bi, ev_isi, ev_mt, ev_ix, ev_sl, toI_int, optI_t, optI_f, ev_lst, ev_tup, ev_nil, ev_cons, ss_nil_, ss_cons_, s_set, s_own, s_par, s_ife, s_for, s_whl, s_drop, s_app, obE_s, loop_1, loop_m, s_ret, s_retN, s_nev, s_brk, s_cnt, s_pass, outO_some, outO_none, lk_nil, lk_cons, st1_0, st1_s, put_fz, put_ex, put_own, putV_nil, putV_cons, putA_nil, putA_cons, fin_next, fin_ret, fin_bad, nal_fz, nal_ex, nal_fz, nal_ex, add_ii, sub_ii, lt_ii, le_ii, gt_ii, ge_ii, is_n, isNot_n, eq_ss, ne_ss, eq_ii, ne_ii, eq_ns, in_ss, notIn_ss, kd_add_i, kd_add_s, kd_add_l, kd_mul_i, kd_sub, kd_fdiv, kd_mod, kd_pow, kd_lt, kd_le, kd_gt, kd_ge, kd_eq, kd_ne, kd_is, kd_isn, kd_in, kd_nin, ix_l, ix_t, ix_scr, map_some_, map_none_, bindO_some, bindO_none, it_any, it_A_t, it_A_s, it_A_l, it_L_fz, it_L_ex, it_L_al, it_r1, it_r2, it_r3, it_enum, it_zip, it_zip3, it_zipA, it_Z_s, it_Z_l, ev_lc, lc_fr_n, lc_fr_v, lc_free, lc_tgIx_1, lc_tgIx_m, obE_R, lc_optK_t, lc_optK_f, lc_noExc_ok, lc_noExc_bad, lc_noExc_exc, lcB_1, lcB_2, lcB_3, isO_own, isO_y, onO_eq, onO_s, bi_len_l, bi_len_scr, bi_len_t, bi_abs, bi_all, bi_any, bi_list, bi_tuple, ix_sl_l, ix_sl_scr, ix_d, ev_dlit, put_ownd, kd_mul_s, kd_mul_l, kd_mul_t, kd_inQ, kd_notInQ, kd_addS, kd_addL, isNon_n, isN_bl, isN_int, isN_str, isN_lst, isN_tup, ty_int_n, ty_int_b, ty_int_i, ty_int_s, ty_int_l, ty_int_t, ty_int_scr, ty_int_d, ty_str_n, ty_str_b, ty_str_i, ty_str_s, ty_str_l, ty_str_t, ty_str_scr, ty_str_d, ty_bool_n, ty_bool_b, ty_bool_i, ty_bool_s, ty_bool_l, ty_bool_t, ty_bool_scr, ty_bool_d, ty_list_n, ty_list_b, ty_list_i, ty_list_s, ty_list_l, ty_list_t, ty_list_scr, ty_list_d, ty_tuple_n, ty_tuple_b, ty_tuple_i, ty_tuple_s, ty_tuple_l, ty_tuple_t, ty_tuple_scr, ty_tuple_d, mtr_split, mtr_join, mtr_starts, mtr_lstrip, mtr_indexS, mtr_indexL, mtr_count, mtr_get1, mtr_get2, eq_nn_, ne_nn_, eq_nb_, ne_nb_, eq_ni_, ne_ni_, eq_bn_, ne_bn_, eq_bb_, ne_bb_, eq_bi_, ne_bi_, eq_bs_, ne_bs_, eq_in_, ne_in_, eq_ib_, ne_ib_, eq_is_, ne_is_, eq_sn_, ne_sn_, eq_sb_, ne_sb_, eq_si_, ne_si_, ne_ns_, c_mul, c_fdiv, c_mod, c_pow, c_adds, c_addl, c_ixs, lt600, lt60, lt1000, c_rng1, c_rng2, c_rng3, c_len, c_str, c_int, c_starts, c_indexS, c_sls, Nat.reduceLT, Int.reduceLT, Int.reduceLE, Int.reduceNeg, Int.reduceToNat, Int.reducePow, Int.reduceMul, Int.reduceAdd, Int.reduceSub, Bool.not_true, Bool.not_false, It.slots, E.slot, Nat.reduceBEq, Sc.d, Int.reduceEq, Nat.reduceEqDiff]
      refine ⟨rfl, hok, u', v', _, _, _, rfl, ?_, h4⟩
      rw [← h1]
      show _ = valR r (eat p w u.length u v).1 (eat p w u.length u v).2
      rw [← h3]
      have : eat p w u'.length u' v' = (u', v') := by
        cases u'.length with
        | zero => rfl
        | succ f => simp only [eat]; rw [if_neg hm]
      rw [this]
  · rintro en o' ⟨rfl, -, u, v, s3, s4, s5, rfl, h1, h2⟩
    rw [← h1, valR_nil]
    cases u with
    | nil => simp only [List.length_cons, List.length_nil, Nat.reduceAdd, Nat.reduceLeDiff, if_true, List.map_cons, List.map_nil, Nat.reduceSub, List.replicate_succ, List.replicate_zero, List.cons_append, List.nil_append, List.all_cons, List.all_nil, Bool.and_true, Bool.true_and, Bool.and_self, decide_true, decide_false, Bool.false_or, Bool.or_false, List.contains_nil, if_false, Bool.false_eq_true, le_big, nal_fz, nal_fz', nal_ex', E.isHole, run_eq, reduceIte, cnd_bl, sl_0, sl_s, rd_val, rd_own, rd_ownd, pass_fz, pass_ex, pass_al, bind_ok, bind_bad, out_ok, out_bad, seq_next, seq_ret, seq_brk, seq_cnt, seq_bad, ofO_some, ofO_none, ev_var, ev_int, ev_str, ev_bl, ev_non, ev_glb, ev_op, ngI_int, ev_neg, nt_bl, ev_not, ev_and, ev_or, ev_one, ev_ife, oc_bl, ev_chain, ev_call, ev_bi, ev_isi, ev_mt, ev_ix, ev_sl, toI_int, optI_t, optI_f, ev_lst, ev_tup, ev_nil, ev_cons, ss_nil_, ss_cons_, s_set, s_own, s_par, s_ife, s_for, s_whl, s_drop, s_app, obE_s, loop_1, loop_m, s_ret, s_retN, s_nev, s_brk, s_cnt, s_pass, outO_some, outO_none, lk_nil, lk_cons, st1_0, st1_s, put_fz, put_ex, put_own, putV_nil, putV_cons, putA_nil, putA_cons, fin_next, fin_ret, fin_bad, nal_fz, nal_ex, nal_fz, nal_ex, add_ii, sub_ii, lt_ii, le_ii, gt_ii, ge_ii, is_n, isNot_n, eq_ss, ne_ss, eq_ii, ne_ii, eq_ns, in_ss, notIn_ss, kd_add_i, kd_add_s, kd_add_l, kd_mul_i, kd_sub, kd_fdiv, kd_mod, kd_pow, kd_lt, kd_le, kd_gt, kd_ge, kd_eq, kd_ne, kd_is, kd_isn, kd_in, kd_nin, ix_l, ix_t, ix_scr, map_some_, map_none_, bindO_some, bindO_none, it_any, it_A_t, it_A_s, it_A_l, it_L_fz, it_L_ex, it_L_al, it_r1, it_r2, it_r3, it_enum, it_zip, it_zip3, it_zipA, it_Z_s, it_Z_l, ev_lc, lc_fr_n, lc_fr_v, lc_free, lc_tgIx_1, lc_tgIx_m, obE_R, lc_optK_t, lc_optK_f, lc_noExc_ok, lc_noExc_bad, lc_noExc_exc, lcB_1, lcB_2, lcB_3, isO_own, isO_y, onO_eq, onO_s, bi_len_l, bi_len_scr, bi_len_t, bi_abs, bi_all, bi_any, bi_list, bi_tuple, ix_sl_l, ix_sl_scr, ix_d, ev_dlit, put_ownd, kd_mul_s, kd_mul_l, kd_mul_t, kd_inQ, kd_notInQ, kd_addS, kd_addL, isNon_n, isN_bl, isN_int, isN_str, isN_lst, isN_tup, ty_int_n, ty_int_b, ty_int_i, ty_int_s, ty_int_l, ty_int_t, ty_int_scr, ty_int_d, ty_str_n, ty_str_b, ty_str_i, ty_str_s, ty_str_l, ty_str_t, ty_str_scr, ty_str_d, ty_bool_n, ty_bool_b, ty_bool_i, ty_bool_s, ty_bool_l, ty_bool_t, ty_bool_scr, ty_bool_d, ty_list_n, ty_list_b, ty_list_i, ty_list_s, ty_list_l, ty_list_t, ty_list_scr, ty_list_d, ty_tuple_n, ty_tuple_b, ty_tuple_i, ty_tuple_s, ty_tuple_l, ty_tuple_t, ty_tuple_scr, ty_tuple_d, mtr_split, mtr_join, mtr_starts, mtr_lstrip, mtr_indexS, mtr_indexL, mtr_count, mtr_get1, mtr_get2, eq_nn_, ne_nn_, eq_nb_, ne_nb_, eq_ni_, ne_ni_, eq_bn_, ne_bn_, eq_bb_, ne_bb_, eq_bi_, ne_bi_, eq_bs_, ne_bs_, eq_in_, ne_in_, eq_ib_, ne_ib_, eq_is_, ne_is_, eq_sn_, ne_sn_, eq_sb_, ne_sb_, eq_si_, ne_si_, ne_ns_, c_mul, c_fdiv, c_mod, c_pow, c_adds, c_addl, c_ixs, lt600, lt60, lt1000, c_rng1, c_rng2, c_rng3, c_len, c_str, c_int, c_starts, c_indexS, c_sls, Nat.reduceLT, Int.reduceLT, Int.reduceLE, Int.reduceNeg, Int.reduceToNat, Int.reducePow, Int.reduceMul, Int.reduceAdd, Int.reduceSub, Bool.not_true, Bool.not_false, It.slots, E.slot, Nat.reduceBEq, Sc.d, Int.reduceEq, Nat.reduceEqDiff, show (([] : Txt) == []) = true from rfl]
    | cons a b =>
      simp only [List.length_cons, List.length_nil, Nat.reduceAdd, Nat.reduceLeDiff, if_true, List.map_cons, List.map_nil, Nat.reduceSub, List.replicate_succ, List.replicate_zero, List.cons_append, List.nil_append, List.all_cons, List.all_nil, Bool.and_true, Bool.true_and, Bool.and_self, decide_true, decide_false, Bool.false_or, Bool.or_false, List.contains_nil, if_false, Bool.false_eq_true, le_big, nal_fz, nal_fz', nal_ex', E.isHole, run_eq, reduceIte, cnd_bl, sl_0, sl_s, rd_val, rd_own, rd_ownd, pass_fz, pass_ex, pass_al, bind_ok, bind_bad, out_ok, out_bad, seq_next, seq_ret, seq_brk, seq_cnt, seq_bad, ofO_some, ofO_none, ev_var, ev_int, ev_str, ev_bl, ev_non, ev_glb, ev_op, ngI_int, ev_neg, nt_bl, ev_not, ev_and, ev_or, ev_one, ev_ife, oc_bl, ev_chain, ev_call, ev_bi, ev_isi, ev_mt, ev_ix, ev_sl, toI_int, optI_t, optI_f, ev_lst, ev_tup, ev_nil, ev_cons, ss_nil_, ss_cons_, s_set, s_own, s_par, s_ife, s_for, s_whl, s_drop, s_app, obE_s, loop_1, loop_m, s_ret, s_retN, s_nev, s_brk, s_cnt, s_pass, outO_some, outO_none, lk_nil, lk_cons, st1_0, st1_s, put_fz, put_ex, put_own, putV_nil, putV_cons, putA_nil, putA_cons, fin_next, fin_ret, fin_bad, nal_fz, nal_ex, nal_fz, nal_ex, add_ii, sub_ii, lt_ii, le_ii, gt_ii, ge_ii, is_n, isNot_n, eq_ss, ne_ss, eq_ii, ne_ii, eq_ns, in_ss, notIn_ss, kd_add_i, kd_add_s, kd_add_l, kd_mul_i, kd_sub, kd_fdiv, kd_mod, kd_pow, kd_lt, kd_le, kd_gt, kd_ge, kd_eq, kd_ne, kd_is, kd_isn, kd_in, kd_nin, ix_l, ix_t, ix_scr, map_some_, map_none_, bindO_some, bindO_none, it_any, it_A_t, it_A_s, it_A_l, it_L_fz, it_L_ex, it_L_al, it_r1, it_r2, it_r3, it_enum, it_zip, it_zip3, it_zipA, it_Z_s, it_Z_l, ev_lc, lc_fr_n, lc_fr_v, lc_free, lc_tgIx_1, lc_tgIx_m, obE_R, lc_optK_t, lc_optK_f, lc_noExc_ok, lc_noExc_bad, lc_noExc_exc, lcB_1, lcB_2, lcB_3, isO_own, isO_y, onO_eq, onO_s, bi_len_l, bi_len_scr, bi_len_t, bi_abs, bi_all, bi_any, bi_list, bi_tuple, ix_sl_l, ix_sl_scr, ix_d, ev_dlit, put_ownd, kd_mul_s, kd_mul_l, kd_mul_t, kd_inQ, kd_notInQ, kd_addS, kd_addL, isNon_n, isN_bl, isN_int, isN_str, isN_lst, isN_tup, ty_int_n, ty_int_b, ty_int_i, ty_int_s, ty_int_l, ty_int_t, ty_int_scr, ty_int_d, ty_str_n, ty_str_b, ty_str_i, ty_str_s, ty_str_l, ty_str_t, ty_str_scr, ty_str_d, ty_bool_n, ty_bool_b, ty_bool_i, ty_bool_s, ty_bool_l, ty_bool_t, ty_bool_scr, ty_bool_d, ty_list_n, ty_list_b, ty_list_i, ty_list_s, ty_list_l, ty_list_t, ty_list_scr, ty_list_d, ty_tuple_n, ty_tuple_b, ty_tuple_i, ty_tuple_s, ty_tuple_l, ty_tuple_t, ty_tuple_scr, ty_tuple_d, mtr_split, mtr_join, mtr_starts, mtr_lstrip, mtr_indexS, mtr_indexL, mtr_count, mtr_get1, mtr_get2, eq_nn_, ne_nn_, eq_nb_, ne_nb_, eq_ni_, ne_ni_, eq_bn_, ne_bn_, eq_bb_, ne_bb_, eq_bi_, ne_bi_, eq_bs_, ne_bs_, eq_in_, ne_in_, eq_ib_, ne_ib_, eq_is_, ne_is_, eq_sn_, ne_sn_, eq_sb_, ne_sb_, eq_si_, ne_si_, ne_ns_, c_mul, c_fdiv, c_mod, c_pow, c_adds, c_addl, c_ixs, lt600, lt60, lt1000, c_rng1, c_rng2, c_rng3, c_len, c_str, c_int, c_starts, c_indexS, c_sls, Nat.reduceLT, Int.reduceLT, Int.reduceLE, Int.reduceNeg, Int.reduceToNat, Int.reducePow, Int.reduceMul, Int.reduceAdd, Int.reduceSub, Bool.not_true, Bool.not_false, It.slots, E.slot, Nat.reduceBEq, Sc.d, Int.reduceEq, Nat.reduceEqDiff, show ((a :: b : Txt) == []) = false from rfl]
      rfl
end
end B
end

section
set_option Elab.async false
set_option linter.all false
set_option maxRecDepth 100000
set_option maxHeartbeats 1000000
/-! N5: the mirrors of the numerals' defs. -/
namespace B
instance (k : Txt) : Decidable (isK k) := by unfold isK; exact inferInstance
def optD : Option Nat → D
  | none => .non
  | some v => .int v
def m_is_between : List R → Objs → Rs R
  | [⟨.int a, .fz⟩, ⟨.int b, .fz⟩, ⟨.int c, .fz⟩], o => .ok ⟨.bl (decide (b ≤ a) && decide (a ≤ c)), .fz⟩ o
  | _, _ => .bad
def m_numeral_of : List R → Objs → Rs R
  | [⟨.int n, .fz⟩, ⟨.str k, .fz⟩], o => if 0 ≤ n ∧ n ≤ 50000 ∧ isK k then .ok ⟨.str (numF n.toNat k), .fz⟩ o else .bad
  | _, _ => .bad
def m_value_of : List R → Objs → Rs R
  | [⟨.str t, .fz⟩, ⟨.str k, .fz⟩], o => if t.length ≤ 20 ∧ isK k then .ok ⟨.int (valOf t k), .fz⟩ o else .bad
  | _, _ => .bad
def m_number_from : List R → Objs → Rs R
  | [⟨.str t, .fz⟩, ⟨.str k, .fz⟩], o => if t.length ≤ bigL ∧ isK k then .ok ⟨optD (numFrom t k), .fz⟩ o else .bad
  | _, _ => .bad
def m_check_kind : List R → Objs → Rs R
  | [⟨.str k, .fz⟩], o => if isK k then .ok ⟨.non, .fz⟩ o else .bad
  | _, _ => .bad
def m_numeral : List R → Objs → Rs R
  | [⟨.int n, .fz⟩, ⟨.str k, .fz⟩], o => if 1 ≤ n ∧ n ≤ 3099 ∧ isK k then .ok ⟨.str (numF n.toNat k), .fz⟩ o else .bad
  | _, _ => .bad
def m_number_of : List R → Objs → Rs R
  | [⟨.str t, .fz⟩, ⟨.str k, .fz⟩], o => if t.length ≤ bigL ∧ isK k then .ok ⟨optD (numFrom t k), .fz⟩ o else .bad
  | _, _ => .bad
def m__law_draw : List R → Objs → Rs R
  | [⟨.int c, .fz⟩, ⟨.int k, .fz⟩, ⟨.int m, .fz⟩], o => if c.natAbs < 2 ^ 600 ∧ k.natAbs < 2 ^ 600 ∧ 0 < m then .ok ⟨.int (draw c k m), .fz⟩ o else .bad
  | _, _ => .bad
def m__law_number : List R → Objs → Rs R
  | [⟨.int c, .fz⟩, ⟨.int k, .fz⟩, ⟨.int m, .fz⟩], o => if 0 ≤ k ∧ k ≤ 1000000 ∧ 0 < m ∧ m ≤ 1000000 then .ok ⟨.int (lawNum c k m), .fz⟩ o else .bad
  | _, _ => .bad
def m__law_pow : List R → Objs → Rs R
  | [⟨.int n, .fz⟩], o => if 0 ≤ n ∧ n ≤ 20 then .ok ⟨.int ((26 ^ n.toNat : Nat) : Int), .fz⟩ o else .bad
  | _, _ => .bad
def m__law_numeral : List R → Objs → Rs R
  | [⟨.int n, .fz⟩, ⟨.str k, .fz⟩], o => if 1 ≤ n ∧ n ≤ 3099 ∧ isK k then .ok ⟨.str (numF n.toNat k), .fz⟩ o else .bad
  | _, _ => .bad
def m__law_value : List R → Objs → Rs R
  | [⟨.str t, .fz⟩, ⟨.str k, .fz⟩], o => if t.length ≤ bigL ∧ isK k then .ok ⟨optD (numFrom t k), .fz⟩ o else .bad
  | _, _ => .bad
def m__law_whole : List R → Objs → Rs R
  | [⟨.int _, .fz⟩], o => .ok ⟨.bl true, .fz⟩ o
  | [⟨.non, .fz⟩], o => .ok ⟨.bl false, .fz⟩ o
  | _, _ => .bad
theorem ifBad {p : Prop} [Decidable p] {x y : Rs R} (h : (if p then x else .bad).isBad = false) (hx : p → y = x) : y = if p then x else .bad := by
  split
  · exact hx (by assumption)
  · rename_i hp; rw [if_neg hp] at h; cases h
section
variable (G : Sg)
theorem rr_is_between : ∀ rs o, (m_is_between rs o).isBad = false → runDef G b_is_between 3 rs o = m_is_between rs o := by
  intro rs o h
  unfold m_is_between at h
  split at h
  · show _ = Rs.ok _ _
    rename_i _ a b c
    unfold b_is_between
    by_cases hh : b ≤ a
    · have hh : decide (b ≤ a) = true := decide_eq_true hh
      simp only [List.length_cons, List.length_nil, Nat.reduceAdd, Nat.reduceLeDiff, if_true, List.map_cons, List.map_nil, Nat.reduceSub, List.replicate_succ, List.replicate_zero, List.cons_append, List.nil_append, List.all_cons, List.all_nil, Bool.and_true, Bool.true_and, Bool.and_self, decide_true, decide_false, Bool.false_or, Bool.or_false, List.contains_nil, if_false, Bool.false_eq_true, le_big, nal_fz, nal_fz', nal_ex', E.isHole, run_eq, reduceIte, cnd_bl, sl_0, sl_s, rd_val, rd_own, rd_ownd, pass_fz, pass_ex, pass_al, bind_ok, bind_bad, out_ok, out_bad, seq_next, seq_ret, seq_brk, seq_cnt, seq_bad, ofO_some, ofO_none, ev_var, ev_int, ev_str, ev_bl, ev_non, ev_glb, ev_op, ngI_int, ev_neg, nt_bl, ev_not, ev_and, ev_or, ev_one, ev_ife, oc_bl, ev_chain, ev_call, ev_bi, ev_isi, ev_mt, ev_ix, ev_sl, toI_int, optI_t, optI_f, ev_lst, ev_tup, ev_nil, ev_cons, ss_nil_, ss_cons_, s_set, s_own, s_par, s_ife, s_for, s_whl, s_drop, s_app, obE_s, loop_1, loop_m, s_ret, s_retN, s_nev, s_brk, s_cnt, s_pass, outO_some, outO_none, lk_nil, lk_cons, st1_0, st1_s, put_fz, put_ex, put_own, putV_nil, putV_cons, putA_nil, putA_cons, fin_next, fin_ret, fin_bad, nal_fz, nal_ex, nal_fz, nal_ex, add_ii, sub_ii, lt_ii, le_ii, gt_ii, ge_ii, is_n, isNot_n, eq_ss, ne_ss, eq_ii, ne_ii, eq_ns, in_ss, notIn_ss, kd_add_i, kd_add_s, kd_add_l, kd_mul_i, kd_sub, kd_fdiv, kd_mod, kd_pow, kd_lt, kd_le, kd_gt, kd_ge, kd_eq, kd_ne, kd_is, kd_isn, kd_in, kd_nin, ix_l, ix_t, ix_scr, map_some_, map_none_, bindO_some, bindO_none, it_any, it_A_t, it_A_s, it_A_l, it_L_fz, it_L_ex, it_L_al, it_r1, it_r2, it_r3, it_enum, it_zip, it_zip3, it_zipA, it_Z_s, it_Z_l, ev_lc, lc_fr_n, lc_fr_v, lc_free, lc_tgIx_1, lc_tgIx_m, obE_R, lc_optK_t, lc_optK_f, lc_noExc_ok, lc_noExc_bad, lc_noExc_exc, lcB_1, lcB_2, lcB_3, isO_own, isO_y, onO_eq, onO_s, bi_len_l, bi_len_scr, bi_len_t, bi_abs, bi_all, bi_any, bi_list, bi_tuple, ix_sl_l, ix_sl_scr, ix_d, ev_dlit, put_ownd, kd_mul_s, kd_mul_l, kd_mul_t, kd_inQ, kd_notInQ, kd_addS, kd_addL, isNon_n, isN_bl, isN_int, isN_str, isN_lst, isN_tup, ty_int_n, ty_int_b, ty_int_i, ty_int_s, ty_int_l, ty_int_t, ty_int_scr, ty_int_d, ty_str_n, ty_str_b, ty_str_i, ty_str_s, ty_str_l, ty_str_t, ty_str_scr, ty_str_d, ty_bool_n, ty_bool_b, ty_bool_i, ty_bool_s, ty_bool_l, ty_bool_t, ty_bool_scr, ty_bool_d, ty_list_n, ty_list_b, ty_list_i, ty_list_s, ty_list_l, ty_list_t, ty_list_scr, ty_list_d, ty_tuple_n, ty_tuple_b, ty_tuple_i, ty_tuple_s, ty_tuple_l, ty_tuple_t, ty_tuple_scr, ty_tuple_d, mtr_split, mtr_join, mtr_starts, mtr_lstrip, mtr_indexS, mtr_indexL, mtr_count, mtr_get1, mtr_get2, eq_nn_, ne_nn_, eq_nb_, ne_nb_, eq_ni_, ne_ni_, eq_bn_, ne_bn_, eq_bb_, ne_bb_, eq_bi_, ne_bi_, eq_bs_, ne_bs_, eq_in_, ne_in_, eq_ib_, ne_ib_, eq_is_, ne_is_, eq_sn_, ne_sn_, eq_sb_, ne_sb_, eq_si_, ne_si_, ne_ns_, c_mul, c_fdiv, c_mod, c_pow, c_adds, c_addl, c_ixs, lt600, lt60, lt1000, c_rng1, c_rng2, c_rng3, c_len, c_str, c_int, c_starts, c_indexS, c_sls, Nat.reduceLT, Int.reduceLT, Int.reduceLE, Int.reduceNeg, Int.reduceToNat, Int.reducePow, Int.reduceMul, Int.reduceAdd, Int.reduceSub, Bool.not_true, Bool.not_false, It.slots, E.slot, Nat.reduceBEq, Sc.d, Int.reduceEq, Nat.reduceEqDiff, hh]
    · have hh : decide (b ≤ a) = false := decide_eq_false hh
      simp only [List.length_cons, List.length_nil, Nat.reduceAdd, Nat.reduceLeDiff, if_true, List.map_cons, List.map_nil, Nat.reduceSub, List.replicate_succ, List.replicate_zero, List.cons_append, List.nil_append, List.all_cons, List.all_nil, Bool.and_true, Bool.true_and, Bool.and_self, decide_true, decide_false, Bool.false_or, Bool.or_false, List.contains_nil, if_false, Bool.false_eq_true, le_big, nal_fz, nal_fz', nal_ex', E.isHole, run_eq, reduceIte, cnd_bl, sl_0, sl_s, rd_val, rd_own, rd_ownd, pass_fz, pass_ex, pass_al, bind_ok, bind_bad, out_ok, out_bad, seq_next, seq_ret, seq_brk, seq_cnt, seq_bad, ofO_some, ofO_none, ev_var, ev_int, ev_str, ev_bl, ev_non, ev_glb, ev_op, ngI_int, ev_neg, nt_bl, ev_not, ev_and, ev_or, ev_one, ev_ife, oc_bl, ev_chain, ev_call, ev_bi, ev_isi, ev_mt, ev_ix, ev_sl, toI_int, optI_t, optI_f, ev_lst, ev_tup, ev_nil, ev_cons, ss_nil_, ss_cons_, s_set, s_own, s_par, s_ife, s_for, s_whl, s_drop, s_app, obE_s, loop_1, loop_m, s_ret, s_retN, s_nev, s_brk, s_cnt, s_pass, outO_some, outO_none, lk_nil, lk_cons, st1_0, st1_s, put_fz, put_ex, put_own, putV_nil, putV_cons, putA_nil, putA_cons, fin_next, fin_ret, fin_bad, nal_fz, nal_ex, nal_fz, nal_ex, add_ii, sub_ii, lt_ii, le_ii, gt_ii, ge_ii, is_n, isNot_n, eq_ss, ne_ss, eq_ii, ne_ii, eq_ns, in_ss, notIn_ss, kd_add_i, kd_add_s, kd_add_l, kd_mul_i, kd_sub, kd_fdiv, kd_mod, kd_pow, kd_lt, kd_le, kd_gt, kd_ge, kd_eq, kd_ne, kd_is, kd_isn, kd_in, kd_nin, ix_l, ix_t, ix_scr, map_some_, map_none_, bindO_some, bindO_none, it_any, it_A_t, it_A_s, it_A_l, it_L_fz, it_L_ex, it_L_al, it_r1, it_r2, it_r3, it_enum, it_zip, it_zip3, it_zipA, it_Z_s, it_Z_l, ev_lc, lc_fr_n, lc_fr_v, lc_free, lc_tgIx_1, lc_tgIx_m, obE_R, lc_optK_t, lc_optK_f, lc_noExc_ok, lc_noExc_bad, lc_noExc_exc, lcB_1, lcB_2, lcB_3, isO_own, isO_y, onO_eq, onO_s, bi_len_l, bi_len_scr, bi_len_t, bi_abs, bi_all, bi_any, bi_list, bi_tuple, ix_sl_l, ix_sl_scr, ix_d, ev_dlit, put_ownd, kd_mul_s, kd_mul_l, kd_mul_t, kd_inQ, kd_notInQ, kd_addS, kd_addL, isNon_n, isN_bl, isN_int, isN_str, isN_lst, isN_tup, ty_int_n, ty_int_b, ty_int_i, ty_int_s, ty_int_l, ty_int_t, ty_int_scr, ty_int_d, ty_str_n, ty_str_b, ty_str_i, ty_str_s, ty_str_l, ty_str_t, ty_str_scr, ty_str_d, ty_bool_n, ty_bool_b, ty_bool_i, ty_bool_s, ty_bool_l, ty_bool_t, ty_bool_scr, ty_bool_d, ty_list_n, ty_list_b, ty_list_i, ty_list_s, ty_list_l, ty_list_t, ty_list_scr, ty_list_d, ty_tuple_n, ty_tuple_b, ty_tuple_i, ty_tuple_s, ty_tuple_l, ty_tuple_t, ty_tuple_scr, ty_tuple_d, mtr_split, mtr_join, mtr_starts, mtr_lstrip, mtr_indexS, mtr_indexL, mtr_count, mtr_get1, mtr_get2, eq_nn_, ne_nn_, eq_nb_, ne_nb_, eq_ni_, ne_ni_, eq_bn_, ne_bn_, eq_bb_, ne_bb_, eq_bi_, ne_bi_, eq_bs_, ne_bs_, eq_in_, ne_in_, eq_ib_, ne_ib_, eq_is_, ne_is_, eq_sn_, ne_sn_, eq_sb_, ne_sb_, eq_si_, ne_si_, ne_ns_, c_mul, c_fdiv, c_mod, c_pow, c_adds, c_addl, c_ixs, lt600, lt60, lt1000, c_rng1, c_rng2, c_rng3, c_len, c_str, c_int, c_starts, c_indexS, c_sls, Nat.reduceLT, Int.reduceLT, Int.reduceLE, Int.reduceNeg, Int.reduceToNat, Int.reducePow, Int.reduceMul, Int.reduceAdd, Int.reduceSub, Bool.not_true, Bool.not_false, It.slots, E.slot, Nat.reduceBEq, Sc.d, Int.reduceEq, Nat.reduceEqDiff, hh, Bool.false_and]
  · cases h
theorem rr_numeral_of (h2 : G.ct 2 = .str abc) (h3 : G.ct 3 = .tup (pieces.map pcD)) : ∀ rs o, (m_numeral_of rs o).isBad = false → runDef G b_numeral_of 5 rs o = m_numeral_of rs o := by
  intro rs o h
  unfold m_numeral_of at h
  split at h
  · refine ifBad h fun hp => ?_
    rename_i _ n k
    obtain ⟨a, b, hk⟩ := hp
    obtain ⟨m, rfl⟩ := Int.eq_ofNat_of_zero_le a
    rw [Int.toNat_natCast]
    rcases hk with rfl | rfl | rfl
    · rw [w1F G o .fz m (by omega)]; rfl
    · rw [w1L G o h2 m (by omega)]; rfl
    · rw [w1R G o h3 m (by omega)]; rfl
  · cases h
theorem rr_value_of (h2 : G.ct 2 = .str abc) (h3 : G.ct 3 = .tup (pieces.map pcD)) : ∀ rs o, (m_value_of rs o).isBad = false → runDef G b_value_of 6 rs o = m_value_of rs o := by
  intro rs o h
  unfold m_value_of at h
  split at h
  · refine ifBad h fun hp => ?_
    obtain ⟨a, hk⟩ := hp
    rcases hk with rfl | rfl | rfl
    · exact w2F G _ _ a
    · exact w2L G _ h2 _ a
    · exact w2R G _ h3 _ a
  · cases h
theorem m_numeral_of_eq (n : Nat) (k : Txt) (o : Objs) (h : n ≤ 50000) (hk : isK k) : m_numeral_of [⟨.int n, .fz⟩, ⟨.str k, .fz⟩] o = .ok ⟨.str (numF n k), .fz⟩ o := if_pos ⟨by omega, by omega, hk⟩
theorem m_value_of_eq (t k : Txt) (o : Objs) (h : t.length ≤ 20) (hk : isK k) : m_value_of [⟨.str t, .fz⟩, ⟨.str k, .fz⟩] o = .ok ⟨.int (valOf t k), .fz⟩ o := if_pos ⟨h, hk⟩
theorem rr_number_from (f1 : G.fn 1 = m_numeral_of) (f2 : G.fn 2 = m_value_of) (c1 : G.ct 1 = .int 3099) : ∀ rs o, (m_number_from rs o).isBad = false → runDef G b_number_from 3 rs o = m_number_from rs o := by
  intro rs o h
  unfold m_number_from at h
  split at h
  · refine ifBad h fun hp => ?_
    rename_i _ t k
    obtain ⟨a, hk⟩ := hp
    unfold b_number_from numFrom
    have e1 : Bi.len.ev [.str t] = some ⟨.int t.length, .fz⟩ := c_len a
    by_cases hl : 20 < t.length
    · have hl' : decide ((20 : Int) < t.length) = true := decide_eq_true (by omega)
      rw [if_pos hl]
      simp only [List.length_cons, List.length_nil, Nat.reduceAdd, Nat.reduceLeDiff, if_true, List.map_cons, List.map_nil, Nat.reduceSub, List.replicate_succ, List.replicate_zero, List.cons_append, List.nil_append, List.all_cons, List.all_nil, Bool.and_true, Bool.true_and, Bool.and_self, decide_true, decide_false, Bool.false_or, Bool.or_false, List.contains_nil, if_false, Bool.false_eq_true, le_big, nal_fz, nal_fz', nal_ex', E.isHole, run_eq, reduceIte, cnd_bl, sl_0, sl_s, rd_val, rd_own, rd_ownd, pass_fz, pass_ex, pass_al, bind_ok, bind_bad, out_ok, out_bad, seq_next, seq_ret, seq_brk, seq_cnt, seq_bad, ofO_some, ofO_none, ev_var, ev_int, ev_str, ev_bl, ev_non, ev_glb, ev_op, ngI_int, ev_neg, nt_bl, ev_not, ev_and, ev_or, ev_one, ev_ife, oc_bl, ev_chain, ev_call, ev_bi, ev_isi, ev_mt, ev_ix, ev_sl, toI_int, optI_t, optI_f, ev_lst, ev_tup, ev_nil, ev_cons, ss_nil_, ss_cons_, s_set, s_own, s_par, s_ife, s_for, s_whl, s_drop, s_app, obE_s, loop_1, loop_m, s_ret, s_retN, s_nev, s_brk, s_cnt, s_pass, outO_some, outO_none, lk_nil, lk_cons, st1_0, st1_s, put_fz, put_ex, put_own, putV_nil, putV_cons, putA_nil, putA_cons, fin_next, fin_ret, fin_bad, nal_fz, nal_ex, nal_fz, nal_ex, add_ii, sub_ii, lt_ii, le_ii, gt_ii, ge_ii, is_n, isNot_n, eq_ss, ne_ss, eq_ii, ne_ii, eq_ns, in_ss, notIn_ss, kd_add_i, kd_add_s, kd_add_l, kd_mul_i, kd_sub, kd_fdiv, kd_mod, kd_pow, kd_lt, kd_le, kd_gt, kd_ge, kd_eq, kd_ne, kd_is, kd_isn, kd_in, kd_nin, ix_l, ix_t, ix_scr, map_some_, map_none_, bindO_some, bindO_none, it_any, it_A_t, it_A_s, it_A_l, it_L_fz, it_L_ex, it_L_al, it_r1, it_r2, it_r3, it_enum, it_zip, it_zip3, it_zipA, it_Z_s, it_Z_l, ev_lc, lc_fr_n, lc_fr_v, lc_free, lc_tgIx_1, lc_tgIx_m, obE_R, lc_optK_t, lc_optK_f, lc_noExc_ok, lc_noExc_bad, lc_noExc_exc, lcB_1, lcB_2, lcB_3, isO_own, isO_y, onO_eq, onO_s, bi_len_l, bi_len_scr, bi_len_t, bi_abs, bi_all, bi_any, bi_list, bi_tuple, ix_sl_l, ix_sl_scr, ix_d, ev_dlit, put_ownd, kd_mul_s, kd_mul_l, kd_mul_t, kd_inQ, kd_notInQ, kd_addS, kd_addL, isNon_n, isN_bl, isN_int, isN_str, isN_lst, isN_tup, ty_int_n, ty_int_b, ty_int_i, ty_int_s, ty_int_l, ty_int_t, ty_int_scr, ty_int_d, ty_str_n, ty_str_b, ty_str_i, ty_str_s, ty_str_l, ty_str_t, ty_str_scr, ty_str_d, ty_bool_n, ty_bool_b, ty_bool_i, ty_bool_s, ty_bool_l, ty_bool_t, ty_bool_scr, ty_bool_d, ty_list_n, ty_list_b, ty_list_i, ty_list_s, ty_list_l, ty_list_t, ty_list_scr, ty_list_d, ty_tuple_n, ty_tuple_b, ty_tuple_i, ty_tuple_s, ty_tuple_l, ty_tuple_t, ty_tuple_scr, ty_tuple_d, mtr_split, mtr_join, mtr_starts, mtr_lstrip, mtr_indexS, mtr_indexL, mtr_count, mtr_get1, mtr_get2, eq_nn_, ne_nn_, eq_nb_, ne_nb_, eq_ni_, ne_ni_, eq_bn_, ne_bn_, eq_bb_, ne_bb_, eq_bi_, ne_bi_, eq_bs_, ne_bs_, eq_in_, ne_in_, eq_ib_, ne_ib_, eq_is_, ne_is_, eq_sn_, ne_sn_, eq_sb_, ne_sb_, eq_si_, ne_si_, ne_ns_, c_mul, c_fdiv, c_mod, c_pow, c_adds, c_addl, c_ixs, lt600, lt60, lt1000, c_rng1, c_rng2, c_rng3, c_len, c_str, c_int, c_starts, c_indexS, c_sls, Nat.reduceLT, Int.reduceLT, Int.reduceLE, Int.reduceNeg, Int.reduceToNat, Int.reducePow, Int.reduceMul, Int.reduceAdd, Int.reduceSub, Bool.not_true, Bool.not_false, It.slots, E.slot, Nat.reduceBEq, Sc.d, Int.reduceEq, Nat.reduceEqDiff, e1, hl']
      rfl
    · have hl' : decide ((20 : Int) < t.length) = false := decide_eq_false (by omega)
      rw [if_neg hl]
      have e2 := m_value_of_eq t k o (by omega) hk
      generalize valOf t k = v at e2 ⊢
      by_cases h1 : 1 ≤ v
      · by_cases h2 : v ≤ 3099
        · have h1' : decide ((1 : Int) ≤ v) = true := decide_eq_true (by omega)
          have h2' : decide ((v : Int) ≤ 3099) = true := decide_eq_true (by omega)
          have e3 := m_numeral_of_eq v k o (by omega) hk
          by_cases h3 : numF v k = t
          · have h3' : (numF v k == t) = true := beq_iff_eq.2 h3
            rw [if_pos ⟨h1, h2, h3⟩]
            simp only [List.length_cons, List.length_nil, Nat.reduceAdd, Nat.reduceLeDiff, if_true, List.map_cons, List.map_nil, Nat.reduceSub, List.replicate_succ, List.replicate_zero, List.cons_append, List.nil_append, List.all_cons, List.all_nil, Bool.and_true, Bool.true_and, Bool.and_self, decide_true, decide_false, Bool.false_or, Bool.or_false, List.contains_nil, if_false, Bool.false_eq_true, le_big, nal_fz, nal_fz', nal_ex', E.isHole, run_eq, reduceIte, cnd_bl, sl_0, sl_s, rd_val, rd_own, rd_ownd, pass_fz, pass_ex, pass_al, bind_ok, bind_bad, out_ok, out_bad, seq_next, seq_ret, seq_brk, seq_cnt, seq_bad, ofO_some, ofO_none, ev_var, ev_int, ev_str, ev_bl, ev_non, ev_glb, ev_op, ngI_int, ev_neg, nt_bl, ev_not, ev_and, ev_or, ev_one, ev_ife, oc_bl, ev_chain, ev_call, ev_bi, ev_isi, ev_mt, ev_ix, ev_sl, toI_int, optI_t, optI_f, ev_lst, ev_tup, ev_nil, ev_cons, ss_nil_, ss_cons_, s_set, s_own, s_par, s_ife, s_for, s_whl, s_drop, s_app, obE_s, loop_1, loop_m, s_ret, s_retN, s_nev, s_brk, s_cnt, s_pass, outO_some, outO_none, lk_nil, lk_cons, st1_0, st1_s, put_fz, put_ex, put_own, putV_nil, putV_cons, putA_nil, putA_cons, fin_next, fin_ret, fin_bad, nal_fz, nal_ex, nal_fz, nal_ex, add_ii, sub_ii, lt_ii, le_ii, gt_ii, ge_ii, is_n, isNot_n, eq_ss, ne_ss, eq_ii, ne_ii, eq_ns, in_ss, notIn_ss, kd_add_i, kd_add_s, kd_add_l, kd_mul_i, kd_sub, kd_fdiv, kd_mod, kd_pow, kd_lt, kd_le, kd_gt, kd_ge, kd_eq, kd_ne, kd_is, kd_isn, kd_in, kd_nin, ix_l, ix_t, ix_scr, map_some_, map_none_, bindO_some, bindO_none, it_any, it_A_t, it_A_s, it_A_l, it_L_fz, it_L_ex, it_L_al, it_r1, it_r2, it_r3, it_enum, it_zip, it_zip3, it_zipA, it_Z_s, it_Z_l, ev_lc, lc_fr_n, lc_fr_v, lc_free, lc_tgIx_1, lc_tgIx_m, obE_R, lc_optK_t, lc_optK_f, lc_noExc_ok, lc_noExc_bad, lc_noExc_exc, lcB_1, lcB_2, lcB_3, isO_own, isO_y, onO_eq, onO_s, bi_len_l, bi_len_scr, bi_len_t, bi_abs, bi_all, bi_any, bi_list, bi_tuple, ix_sl_l, ix_sl_scr, ix_d, ev_dlit, put_ownd, kd_mul_s, kd_mul_l, kd_mul_t, kd_inQ, kd_notInQ, kd_addS, kd_addL, isNon_n, isN_bl, isN_int, isN_str, isN_lst, isN_tup, ty_int_n, ty_int_b, ty_int_i, ty_int_s, ty_int_l, ty_int_t, ty_int_scr, ty_int_d, ty_str_n, ty_str_b, ty_str_i, ty_str_s, ty_str_l, ty_str_t, ty_str_scr, ty_str_d, ty_bool_n, ty_bool_b, ty_bool_i, ty_bool_s, ty_bool_l, ty_bool_t, ty_bool_scr, ty_bool_d, ty_list_n, ty_list_b, ty_list_i, ty_list_s, ty_list_l, ty_list_t, ty_list_scr, ty_list_d, ty_tuple_n, ty_tuple_b, ty_tuple_i, ty_tuple_s, ty_tuple_l, ty_tuple_t, ty_tuple_scr, ty_tuple_d, mtr_split, mtr_join, mtr_starts, mtr_lstrip, mtr_indexS, mtr_indexL, mtr_count, mtr_get1, mtr_get2, eq_nn_, ne_nn_, eq_nb_, ne_nb_, eq_ni_, ne_ni_, eq_bn_, ne_bn_, eq_bb_, ne_bb_, eq_bi_, ne_bi_, eq_bs_, ne_bs_, eq_in_, ne_in_, eq_ib_, ne_ib_, eq_is_, ne_is_, eq_sn_, ne_sn_, eq_sb_, ne_sb_, eq_si_, ne_si_, ne_ns_, c_mul, c_fdiv, c_mod, c_pow, c_adds, c_addl, c_ixs, lt600, lt60, lt1000, c_rng1, c_rng2, c_rng3, c_len, c_str, c_int, c_starts, c_indexS, c_sls, Nat.reduceLT, Int.reduceLT, Int.reduceLE, Int.reduceNeg, Int.reduceToNat, Int.reducePow, Int.reduceMul, Int.reduceAdd, Int.reduceSub, Bool.not_true, Bool.not_false, It.slots, E.slot, Nat.reduceBEq, Sc.d, Int.reduceEq, Nat.reduceEqDiff, e1, hl', f1, f2, c1, e2, e3, h1', h2', h3']
            rfl
          · have h3' : (numF v k == t) = false := beq_eq_false_iff_ne.2 h3
            rw [if_neg (fun x => h3 x.2.2)]
            simp only [List.length_cons, List.length_nil, Nat.reduceAdd, Nat.reduceLeDiff, if_true, List.map_cons, List.map_nil, Nat.reduceSub, List.replicate_succ, List.replicate_zero, List.cons_append, List.nil_append, List.all_cons, List.all_nil, Bool.and_true, Bool.true_and, Bool.and_self, decide_true, decide_false, Bool.false_or, Bool.or_false, List.contains_nil, if_false, Bool.false_eq_true, le_big, nal_fz, nal_fz', nal_ex', E.isHole, run_eq, reduceIte, cnd_bl, sl_0, sl_s, rd_val, rd_own, rd_ownd, pass_fz, pass_ex, pass_al, bind_ok, bind_bad, out_ok, out_bad, seq_next, seq_ret, seq_brk, seq_cnt, seq_bad, ofO_some, ofO_none, ev_var, ev_int, ev_str, ev_bl, ev_non, ev_glb, ev_op, ngI_int, ev_neg, nt_bl, ev_not, ev_and, ev_or, ev_one, ev_ife, oc_bl, ev_chain, ev_call, ev_bi, ev_isi, ev_mt, ev_ix, ev_sl, toI_int, optI_t, optI_f, ev_lst, ev_tup, ev_nil, ev_cons, ss_nil_, ss_cons_, s_set, s_own, s_par, s_ife, s_for, s_whl, s_drop, s_app, obE_s, loop_1, loop_m, s_ret, s_retN, s_nev, s_brk, s_cnt, s_pass, outO_some, outO_none, lk_nil, lk_cons, st1_0, st1_s, put_fz, put_ex, put_own, putV_nil, putV_cons, putA_nil, putA_cons, fin_next, fin_ret, fin_bad, nal_fz, nal_ex, nal_fz, nal_ex, add_ii, sub_ii, lt_ii, le_ii, gt_ii, ge_ii, is_n, isNot_n, eq_ss, ne_ss, eq_ii, ne_ii, eq_ns, in_ss, notIn_ss, kd_add_i, kd_add_s, kd_add_l, kd_mul_i, kd_sub, kd_fdiv, kd_mod, kd_pow, kd_lt, kd_le, kd_gt, kd_ge, kd_eq, kd_ne, kd_is, kd_isn, kd_in, kd_nin, ix_l, ix_t, ix_scr, map_some_, map_none_, bindO_some, bindO_none, it_any, it_A_t, it_A_s, it_A_l, it_L_fz, it_L_ex, it_L_al, it_r1, it_r2, it_r3, it_enum, it_zip, it_zip3, it_zipA, it_Z_s, it_Z_l, ev_lc, lc_fr_n, lc_fr_v, lc_free, lc_tgIx_1, lc_tgIx_m, obE_R, lc_optK_t, lc_optK_f, lc_noExc_ok, lc_noExc_bad, lc_noExc_exc, lcB_1, lcB_2, lcB_3, isO_own, isO_y, onO_eq, onO_s, bi_len_l, bi_len_scr, bi_len_t, bi_abs, bi_all, bi_any, bi_list, bi_tuple, ix_sl_l, ix_sl_scr, ix_d, ev_dlit, put_ownd, kd_mul_s, kd_mul_l, kd_mul_t, kd_inQ, kd_notInQ, kd_addS, kd_addL, isNon_n, isN_bl, isN_int, isN_str, isN_lst, isN_tup, ty_int_n, ty_int_b, ty_int_i, ty_int_s, ty_int_l, ty_int_t, ty_int_scr, ty_int_d, ty_str_n, ty_str_b, ty_str_i, ty_str_s, ty_str_l, ty_str_t, ty_str_scr, ty_str_d, ty_bool_n, ty_bool_b, ty_bool_i, ty_bool_s, ty_bool_l, ty_bool_t, ty_bool_scr, ty_bool_d, ty_list_n, ty_list_b, ty_list_i, ty_list_s, ty_list_l, ty_list_t, ty_list_scr, ty_list_d, ty_tuple_n, ty_tuple_b, ty_tuple_i, ty_tuple_s, ty_tuple_l, ty_tuple_t, ty_tuple_scr, ty_tuple_d, mtr_split, mtr_join, mtr_starts, mtr_lstrip, mtr_indexS, mtr_indexL, mtr_count, mtr_get1, mtr_get2, eq_nn_, ne_nn_, eq_nb_, ne_nb_, eq_ni_, ne_ni_, eq_bn_, ne_bn_, eq_bb_, ne_bb_, eq_bi_, ne_bi_, eq_bs_, ne_bs_, eq_in_, ne_in_, eq_ib_, ne_ib_, eq_is_, ne_is_, eq_sn_, ne_sn_, eq_sb_, ne_sb_, eq_si_, ne_si_, ne_ns_, c_mul, c_fdiv, c_mod, c_pow, c_adds, c_addl, c_ixs, lt600, lt60, lt1000, c_rng1, c_rng2, c_rng3, c_len, c_str, c_int, c_starts, c_indexS, c_sls, Nat.reduceLT, Int.reduceLT, Int.reduceLE, Int.reduceNeg, Int.reduceToNat, Int.reducePow, Int.reduceMul, Int.reduceAdd, Int.reduceSub, Bool.not_true, Bool.not_false, It.slots, E.slot, Nat.reduceBEq, Sc.d, Int.reduceEq, Nat.reduceEqDiff, e1, hl', f1, f2, c1, e2, e3, h1', h2', h3']
            rfl
        · have h1' : decide ((1 : Int) ≤ v) = true := decide_eq_true (by omega)
          have h2' : decide ((v : Int) ≤ 3099) = false := decide_eq_false (by omega)
          rw [if_neg (fun x => h2 x.2.1)]
          simp only [List.length_cons, List.length_nil, Nat.reduceAdd, Nat.reduceLeDiff, if_true, List.map_cons, List.map_nil, Nat.reduceSub, List.replicate_succ, List.replicate_zero, List.cons_append, List.nil_append, List.all_cons, List.all_nil, Bool.and_true, Bool.true_and, Bool.and_self, decide_true, decide_false, Bool.false_or, Bool.or_false, List.contains_nil, if_false, Bool.false_eq_true, le_big, nal_fz, nal_fz', nal_ex', E.isHole, run_eq, reduceIte, cnd_bl, sl_0, sl_s, rd_val, rd_own, rd_ownd, pass_fz, pass_ex, pass_al, bind_ok, bind_bad, out_ok, out_bad, seq_next, seq_ret, seq_brk, seq_cnt, seq_bad, ofO_some, ofO_none, ev_var, ev_int, ev_str, ev_bl, ev_non, ev_glb, ev_op, ngI_int, ev_neg, nt_bl, ev_not, ev_and, ev_or, ev_one, ev_ife, oc_bl, ev_chain, ev_call, ev_bi, ev_isi, ev_mt, ev_ix, ev_sl, toI_int, optI_t, optI_f, ev_lst, ev_tup, ev_nil, ev_cons, ss_nil_, ss_cons_, s_set, s_own, s_par, s_ife, s_for, s_whl, s_drop, s_app, obE_s, loop_1, loop_m, s_ret, s_retN, s_nev, s_brk, s_cnt, s_pass, outO_some, outO_none, lk_nil, lk_cons, st1_0, st1_s, put_fz, put_ex, put_own, putV_nil, putV_cons, putA_nil, putA_cons, fin_next, fin_ret, fin_bad, nal_fz, nal_ex, nal_fz, nal_ex, add_ii, sub_ii, lt_ii, le_ii, gt_ii, ge_ii, is_n, isNot_n, eq_ss, ne_ss, eq_ii, ne_ii, eq_ns, in_ss, notIn_ss, kd_add_i, kd_add_s, kd_add_l, kd_mul_i, kd_sub, kd_fdiv, kd_mod, kd_pow, kd_lt, kd_le, kd_gt, kd_ge, kd_eq, kd_ne, kd_is, kd_isn, kd_in, kd_nin, ix_l, ix_t, ix_scr, map_some_, map_none_, bindO_some, bindO_none, it_any, it_A_t, it_A_s, it_A_l, it_L_fz, it_L_ex, it_L_al, it_r1, it_r2, it_r3, it_enum, it_zip, it_zip3, it_zipA, it_Z_s, it_Z_l, ev_lc, lc_fr_n, lc_fr_v, lc_free, lc_tgIx_1, lc_tgIx_m, obE_R, lc_optK_t, lc_optK_f, lc_noExc_ok, lc_noExc_bad, lc_noExc_exc, lcB_1, lcB_2, lcB_3, isO_own, isO_y, onO_eq, onO_s, bi_len_l, bi_len_scr, bi_len_t, bi_abs, bi_all, bi_any, bi_list, bi_tuple, ix_sl_l, ix_sl_scr, ix_d, ev_dlit, put_ownd, kd_mul_s, kd_mul_l, kd_mul_t, kd_inQ, kd_notInQ, kd_addS, kd_addL, isNon_n, isN_bl, isN_int, isN_str, isN_lst, isN_tup, ty_int_n, ty_int_b, ty_int_i, ty_int_s, ty_int_l, ty_int_t, ty_int_scr, ty_int_d, ty_str_n, ty_str_b, ty_str_i, ty_str_s, ty_str_l, ty_str_t, ty_str_scr, ty_str_d, ty_bool_n, ty_bool_b, ty_bool_i, ty_bool_s, ty_bool_l, ty_bool_t, ty_bool_scr, ty_bool_d, ty_list_n, ty_list_b, ty_list_i, ty_list_s, ty_list_l, ty_list_t, ty_list_scr, ty_list_d, ty_tuple_n, ty_tuple_b, ty_tuple_i, ty_tuple_s, ty_tuple_l, ty_tuple_t, ty_tuple_scr, ty_tuple_d, mtr_split, mtr_join, mtr_starts, mtr_lstrip, mtr_indexS, mtr_indexL, mtr_count, mtr_get1, mtr_get2, eq_nn_, ne_nn_, eq_nb_, ne_nb_, eq_ni_, ne_ni_, eq_bn_, ne_bn_, eq_bb_, ne_bb_, eq_bi_, ne_bi_, eq_bs_, ne_bs_, eq_in_, ne_in_, eq_ib_, ne_ib_, eq_is_, ne_is_, eq_sn_, ne_sn_, eq_sb_, ne_sb_, eq_si_, ne_si_, ne_ns_, c_mul, c_fdiv, c_mod, c_pow, c_adds, c_addl, c_ixs, lt600, lt60, lt1000, c_rng1, c_rng2, c_rng3, c_len, c_str, c_int, c_starts, c_indexS, c_sls, Nat.reduceLT, Int.reduceLT, Int.reduceLE, Int.reduceNeg, Int.reduceToNat, Int.reducePow, Int.reduceMul, Int.reduceAdd, Int.reduceSub, Bool.not_true, Bool.not_false, It.slots, E.slot, Nat.reduceBEq, Sc.d, Int.reduceEq, Nat.reduceEqDiff, e1, hl', f1, f2, c1, e2, h1', h2']
          rfl
      · have h1' : decide ((1 : Int) ≤ v) = false := decide_eq_false (by omega)
        rw [if_neg (fun x => h1 x.1)]
        simp only [List.length_cons, List.length_nil, Nat.reduceAdd, Nat.reduceLeDiff, if_true, List.map_cons, List.map_nil, Nat.reduceSub, List.replicate_succ, List.replicate_zero, List.cons_append, List.nil_append, List.all_cons, List.all_nil, Bool.and_true, Bool.true_and, Bool.and_self, decide_true, decide_false, Bool.false_or, Bool.or_false, List.contains_nil, if_false, Bool.false_eq_true, le_big, nal_fz, nal_fz', nal_ex', E.isHole, run_eq, reduceIte, cnd_bl, sl_0, sl_s, rd_val, rd_own, rd_ownd, pass_fz, pass_ex, pass_al, bind_ok, bind_bad, out_ok, out_bad, seq_next, seq_ret, seq_brk, seq_cnt, seq_bad, ofO_some, ofO_none, ev_var, ev_int, ev_str, ev_bl, ev_non, ev_glb, ev_op, ngI_int, ev_neg, nt_bl, ev_not, ev_and, ev_or, ev_one, ev_ife, oc_bl, ev_chain, ev_call, ev_bi, ev_isi, ev_mt, ev_ix, ev_sl, toI_int, optI_t, optI_f, ev_lst, ev_tup, ev_nil, ev_cons, ss_nil_, ss_cons_, s_set, s_own, s_par, s_ife, s_for, s_whl, s_drop, s_app, obE_s, loop_1, loop_m, s_ret, s_retN, s_nev, s_brk, s_cnt, s_pass, outO_some, outO_none, lk_nil, lk_cons, st1_0, st1_s, put_fz, put_ex, put_own, putV_nil, putV_cons, putA_nil, putA_cons, fin_next, fin_ret, fin_bad, nal_fz, nal_ex, nal_fz, nal_ex, add_ii, sub_ii, lt_ii, le_ii, gt_ii, ge_ii, is_n, isNot_n, eq_ss, ne_ss, eq_ii, ne_ii, eq_ns, in_ss, notIn_ss, kd_add_i, kd_add_s, kd_add_l, kd_mul_i, kd_sub, kd_fdiv, kd_mod, kd_pow, kd_lt, kd_le, kd_gt, kd_ge, kd_eq, kd_ne, kd_is, kd_isn, kd_in, kd_nin, ix_l, ix_t, ix_scr, map_some_, map_none_, bindO_some, bindO_none, it_any, it_A_t, it_A_s, it_A_l, it_L_fz, it_L_ex, it_L_al, it_r1, it_r2, it_r3, it_enum, it_zip, it_zip3, it_zipA, it_Z_s, it_Z_l, ev_lc, lc_fr_n, lc_fr_v, lc_free, lc_tgIx_1, lc_tgIx_m, obE_R, lc_optK_t, lc_optK_f, lc_noExc_ok, lc_noExc_bad, lc_noExc_exc, lcB_1, lcB_2, lcB_3, isO_own, isO_y, onO_eq, onO_s, bi_len_l, bi_len_scr, bi_len_t, bi_abs, bi_all, bi_any, bi_list, bi_tuple, ix_sl_l, ix_sl_scr, ix_d, ev_dlit, put_ownd, kd_mul_s, kd_mul_l, kd_mul_t, kd_inQ, kd_notInQ, kd_addS, kd_addL, isNon_n, isN_bl, isN_int, isN_str, isN_lst, isN_tup, ty_int_n, ty_int_b, ty_int_i, ty_int_s, ty_int_l, ty_int_t, ty_int_scr, ty_int_d, ty_str_n, ty_str_b, ty_str_i, ty_str_s, ty_str_l, ty_str_t, ty_str_scr, ty_str_d, ty_bool_n, ty_bool_b, ty_bool_i, ty_bool_s, ty_bool_l, ty_bool_t, ty_bool_scr, ty_bool_d, ty_list_n, ty_list_b, ty_list_i, ty_list_s, ty_list_l, ty_list_t, ty_list_scr, ty_list_d, ty_tuple_n, ty_tuple_b, ty_tuple_i, ty_tuple_s, ty_tuple_l, ty_tuple_t, ty_tuple_scr, ty_tuple_d, mtr_split, mtr_join, mtr_starts, mtr_lstrip, mtr_indexS, mtr_indexL, mtr_count, mtr_get1, mtr_get2, eq_nn_, ne_nn_, eq_nb_, ne_nb_, eq_ni_, ne_ni_, eq_bn_, ne_bn_, eq_bb_, ne_bb_, eq_bi_, ne_bi_, eq_bs_, ne_bs_, eq_in_, ne_in_, eq_ib_, ne_ib_, eq_is_, ne_is_, eq_sn_, ne_sn_, eq_sb_, ne_sb_, eq_si_, ne_si_, ne_ns_, c_mul, c_fdiv, c_mod, c_pow, c_adds, c_addl, c_ixs, lt600, lt60, lt1000, c_rng1, c_rng2, c_rng3, c_len, c_str, c_int, c_starts, c_indexS, c_sls, Nat.reduceLT, Int.reduceLT, Int.reduceLE, Int.reduceNeg, Int.reduceToNat, Int.reducePow, Int.reduceMul, Int.reduceAdd, Int.reduceSub, Bool.not_true, Bool.not_false, It.slots, E.slot, Nat.reduceBEq, Sc.d, Int.reduceEq, Nat.reduceEqDiff, e1, hl', f1, f2, c1, e2, h1']
        rfl
  · cases h
theorem rr_check_kind (c0 : G.ct 0 = .tup [.str kF, .str kL, .str kR]) : ∀ rs o, (m_check_kind rs o).isBad = false → runDef G b_check_kind 1 rs o = m_check_kind rs o := by
  intro rs o h
  unfold m_check_kind at h
  split at h
  · refine ifBad h fun hk => ?_
    rename_i _ k
    unfold b_check_kind
    have e1 : Op.notIn.ev (.str k) (.tup [.str kF, .str kL, .str kR]) = some (.bl false) := by
      rcases hk with rfl | rfl | rfl <;> rfl
    simp only [List.length_cons, List.length_nil, Nat.reduceAdd, Nat.reduceLeDiff, if_true, List.map_cons, List.map_nil, Nat.reduceSub, List.replicate_succ, List.replicate_zero, List.cons_append, List.nil_append, List.all_cons, List.all_nil, Bool.and_true, Bool.true_and, Bool.and_self, decide_true, decide_false, Bool.false_or, Bool.or_false, List.contains_nil, if_false, Bool.false_eq_true, le_big, nal_fz, nal_fz', nal_ex', E.isHole, run_eq, reduceIte, cnd_bl, sl_0, sl_s, rd_val, rd_own, rd_ownd, pass_fz, pass_ex, pass_al, bind_ok, bind_bad, out_ok, out_bad, seq_next, seq_ret, seq_brk, seq_cnt, seq_bad, ofO_some, ofO_none, ev_var, ev_int, ev_str, ev_bl, ev_non, ev_glb, ev_op, ngI_int, ev_neg, nt_bl, ev_not, ev_and, ev_or, ev_one, ev_ife, oc_bl, ev_chain, ev_call, ev_bi, ev_isi, ev_mt, ev_ix, ev_sl, toI_int, optI_t, optI_f, ev_lst, ev_tup, ev_nil, ev_cons, ss_nil_, ss_cons_, s_set, s_own, s_par, s_ife, s_for, s_whl, s_drop, s_app, obE_s, loop_1, loop_m, s_ret, s_retN, s_nev, s_brk, s_cnt, s_pass, outO_some, outO_none, lk_nil, lk_cons, st1_0, st1_s, put_fz, put_ex, put_own, putV_nil, putV_cons, putA_nil, putA_cons, fin_next, fin_ret, fin_bad, nal_fz, nal_ex, nal_fz, nal_ex, add_ii, sub_ii, lt_ii, le_ii, gt_ii, ge_ii, is_n, isNot_n, eq_ss, ne_ss, eq_ii, ne_ii, eq_ns, in_ss, notIn_ss, kd_add_i, kd_add_s, kd_add_l, kd_mul_i, kd_sub, kd_fdiv, kd_mod, kd_pow, kd_lt, kd_le, kd_gt, kd_ge, kd_eq, kd_ne, kd_is, kd_isn, kd_in, kd_nin, ix_l, ix_t, ix_scr, map_some_, map_none_, bindO_some, bindO_none, it_any, it_A_t, it_A_s, it_A_l, it_L_fz, it_L_ex, it_L_al, it_r1, it_r2, it_r3, it_enum, it_zip, it_zip3, it_zipA, it_Z_s, it_Z_l, ev_lc, lc_fr_n, lc_fr_v, lc_free, lc_tgIx_1, lc_tgIx_m, obE_R, lc_optK_t, lc_optK_f, lc_noExc_ok, lc_noExc_bad, lc_noExc_exc, lcB_1, lcB_2, lcB_3, isO_own, isO_y, onO_eq, onO_s, bi_len_l, bi_len_scr, bi_len_t, bi_abs, bi_all, bi_any, bi_list, bi_tuple, ix_sl_l, ix_sl_scr, ix_d, ev_dlit, put_ownd, kd_mul_s, kd_mul_l, kd_mul_t, kd_inQ, kd_notInQ, kd_addS, kd_addL, isNon_n, isN_bl, isN_int, isN_str, isN_lst, isN_tup, ty_int_n, ty_int_b, ty_int_i, ty_int_s, ty_int_l, ty_int_t, ty_int_scr, ty_int_d, ty_str_n, ty_str_b, ty_str_i, ty_str_s, ty_str_l, ty_str_t, ty_str_scr, ty_str_d, ty_bool_n, ty_bool_b, ty_bool_i, ty_bool_s, ty_bool_l, ty_bool_t, ty_bool_scr, ty_bool_d, ty_list_n, ty_list_b, ty_list_i, ty_list_s, ty_list_l, ty_list_t, ty_list_scr, ty_list_d, ty_tuple_n, ty_tuple_b, ty_tuple_i, ty_tuple_s, ty_tuple_l, ty_tuple_t, ty_tuple_scr, ty_tuple_d, mtr_split, mtr_join, mtr_starts, mtr_lstrip, mtr_indexS, mtr_indexL, mtr_count, mtr_get1, mtr_get2, eq_nn_, ne_nn_, eq_nb_, ne_nb_, eq_ni_, ne_ni_, eq_bn_, ne_bn_, eq_bb_, ne_bb_, eq_bi_, ne_bi_, eq_bs_, ne_bs_, eq_in_, ne_in_, eq_ib_, ne_ib_, eq_is_, ne_is_, eq_sn_, ne_sn_, eq_sb_, ne_sb_, eq_si_, ne_si_, ne_ns_, c_mul, c_fdiv, c_mod, c_pow, c_adds, c_addl, c_ixs, lt600, lt60, lt1000, c_rng1, c_rng2, c_rng3, c_len, c_str, c_int, c_starts, c_indexS, c_sls, Nat.reduceLT, Int.reduceLT, Int.reduceLE, Int.reduceNeg, Int.reduceToNat, Int.reducePow, Int.reduceMul, Int.reduceAdd, Int.reduceSub, Bool.not_true, Bool.not_false, It.slots, E.slot, Nat.reduceBEq, Sc.d, Int.reduceEq, Nat.reduceEqDiff, c0, e1]
  · cases h
theorem rr_numeral (f0 : G.fn 0 = m_is_between) (f1 : G.fn 1 = m_numeral_of) (f4 : G.fn 4 = m_check_kind) (c1 : G.ct 1 = .int 3099) : ∀ rs o, (m_numeral rs o).isBad = false → runDef G b_numeral 2 rs o = m_numeral rs o := by
  intro rs o h
  unfold m_numeral at h
  split at h
  · refine ifBad h fun hp => ?_
    rename_i _ n k
    obtain ⟨a, b, hk⟩ := hp
    have e0 : m_is_between [⟨.int n, .fz⟩, ⟨.int 1, .fz⟩, ⟨.int 3099, .fz⟩] o = .ok ⟨.bl true, .fz⟩ o := by
      show Rs.ok (⟨.bl (decide (1 ≤ n) && decide (n ≤ 3099)), .fz⟩ : R) o = _
      rw [decide_eq_true a, decide_eq_true b]; rfl
    have e1 : m_numeral_of [⟨.int n, .fz⟩, ⟨.str k, .fz⟩] o = .ok ⟨.str (numF n.toNat k), .fz⟩ o := if_pos ⟨by omega, by omega, hk⟩
    have e2 : m_check_kind [⟨.str k, .fz⟩] o = .ok ⟨.non, .fz⟩ o := if_pos hk
    unfold b_numeral
    simp only [List.length_cons, List.length_nil, Nat.reduceAdd, Nat.reduceLeDiff, if_true, List.map_cons, List.map_nil, Nat.reduceSub, List.replicate_succ, List.replicate_zero, List.cons_append, List.nil_append, List.all_cons, List.all_nil, Bool.and_true, Bool.true_and, Bool.and_self, decide_true, decide_false, Bool.false_or, Bool.or_false, List.contains_nil, if_false, Bool.false_eq_true, le_big, nal_fz, nal_fz', nal_ex', E.isHole, run_eq, reduceIte, cnd_bl, sl_0, sl_s, rd_val, rd_own, rd_ownd, pass_fz, pass_ex, pass_al, bind_ok, bind_bad, out_ok, out_bad, seq_next, seq_ret, seq_brk, seq_cnt, seq_bad, ofO_some, ofO_none, ev_var, ev_int, ev_str, ev_bl, ev_non, ev_glb, ev_op, ngI_int, ev_neg, nt_bl, ev_not, ev_and, ev_or, ev_one, ev_ife, oc_bl, ev_chain, ev_call, ev_bi, ev_isi, ev_mt, ev_ix, ev_sl, toI_int, optI_t, optI_f, ev_lst, ev_tup, ev_nil, ev_cons, ss_nil_, ss_cons_, s_set, s_own, s_par, s_ife, s_for, s_whl, s_drop, s_app, obE_s, loop_1, loop_m, s_ret, s_retN, s_nev, s_brk, s_cnt, s_pass, outO_some, outO_none, lk_nil, lk_cons, st1_0, st1_s, put_fz, put_ex, put_own, putV_nil, putV_cons, putA_nil, putA_cons, fin_next, fin_ret, fin_bad, nal_fz, nal_ex, nal_fz, nal_ex, add_ii, sub_ii, lt_ii, le_ii, gt_ii, ge_ii, is_n, isNot_n, eq_ss, ne_ss, eq_ii, ne_ii, eq_ns, in_ss, notIn_ss, kd_add_i, kd_add_s, kd_add_l, kd_mul_i, kd_sub, kd_fdiv, kd_mod, kd_pow, kd_lt, kd_le, kd_gt, kd_ge, kd_eq, kd_ne, kd_is, kd_isn, kd_in, kd_nin, ix_l, ix_t, ix_scr, map_some_, map_none_, bindO_some, bindO_none, it_any, it_A_t, it_A_s, it_A_l, it_L_fz, it_L_ex, it_L_al, it_r1, it_r2, it_r3, it_enum, it_zip, it_zip3, it_zipA, it_Z_s, it_Z_l, ev_lc, lc_fr_n, lc_fr_v, lc_free, lc_tgIx_1, lc_tgIx_m, obE_R, lc_optK_t, lc_optK_f, lc_noExc_ok, lc_noExc_bad, lc_noExc_exc, lcB_1, lcB_2, lcB_3, isO_own, isO_y, onO_eq, onO_s, bi_len_l, bi_len_scr, bi_len_t, bi_abs, bi_all, bi_any, bi_list, bi_tuple, ix_sl_l, ix_sl_scr, ix_d, ev_dlit, put_ownd, kd_mul_s, kd_mul_l, kd_mul_t, kd_inQ, kd_notInQ, kd_addS, kd_addL, isNon_n, isN_bl, isN_int, isN_str, isN_lst, isN_tup, ty_int_n, ty_int_b, ty_int_i, ty_int_s, ty_int_l, ty_int_t, ty_int_scr, ty_int_d, ty_str_n, ty_str_b, ty_str_i, ty_str_s, ty_str_l, ty_str_t, ty_str_scr, ty_str_d, ty_bool_n, ty_bool_b, ty_bool_i, ty_bool_s, ty_bool_l, ty_bool_t, ty_bool_scr, ty_bool_d, ty_list_n, ty_list_b, ty_list_i, ty_list_s, ty_list_l, ty_list_t, ty_list_scr, ty_list_d, ty_tuple_n, ty_tuple_b, ty_tuple_i, ty_tuple_s, ty_tuple_l, ty_tuple_t, ty_tuple_scr, ty_tuple_d, mtr_split, mtr_join, mtr_starts, mtr_lstrip, mtr_indexS, mtr_indexL, mtr_count, mtr_get1, mtr_get2, eq_nn_, ne_nn_, eq_nb_, ne_nb_, eq_ni_, ne_ni_, eq_bn_, ne_bn_, eq_bb_, ne_bb_, eq_bi_, ne_bi_, eq_bs_, ne_bs_, eq_in_, ne_in_, eq_ib_, ne_ib_, eq_is_, ne_is_, eq_sn_, ne_sn_, eq_sb_, ne_sb_, eq_si_, ne_si_, ne_ns_, c_mul, c_fdiv, c_mod, c_pow, c_adds, c_addl, c_ixs, lt600, lt60, lt1000, c_rng1, c_rng2, c_rng3, c_len, c_str, c_int, c_starts, c_indexS, c_sls, Nat.reduceLT, Int.reduceLT, Int.reduceLE, Int.reduceNeg, Int.reduceToNat, Int.reducePow, Int.reduceMul, Int.reduceAdd, Int.reduceSub, Bool.not_true, Bool.not_false, It.slots, E.slot, Nat.reduceBEq, Sc.d, Int.reduceEq, Nat.reduceEqDiff, f0, f1, f4, c1, e0, e1, e2]
  · cases h
theorem rr_number_of (f3 : G.fn 3 = m_number_from) (f4 : G.fn 4 = m_check_kind) : ∀ rs o, (m_number_of rs o).isBad = false → runDef G b_number_of 2 rs o = m_number_of rs o := by
  intro rs o h
  unfold m_number_of at h
  split at h
  · refine ifBad h fun hp => ?_
    rename_i _ t k
    have e1 : m_number_from [⟨.str t, .fz⟩, ⟨.str k, .fz⟩] o = .ok ⟨optD (numFrom t k), .fz⟩ o := if_pos hp
    have e2 : m_check_kind [⟨.str k, .fz⟩] o = .ok ⟨.non, .fz⟩ o := if_pos hp.2
    unfold b_number_of
    simp only [List.length_cons, List.length_nil, Nat.reduceAdd, Nat.reduceLeDiff, if_true, List.map_cons, List.map_nil, Nat.reduceSub, List.replicate_succ, List.replicate_zero, List.cons_append, List.nil_append, List.all_cons, List.all_nil, Bool.and_true, Bool.true_and, Bool.and_self, decide_true, decide_false, Bool.false_or, Bool.or_false, List.contains_nil, if_false, Bool.false_eq_true, le_big, nal_fz, nal_fz', nal_ex', E.isHole, run_eq, reduceIte, cnd_bl, sl_0, sl_s, rd_val, rd_own, rd_ownd, pass_fz, pass_ex, pass_al, bind_ok, bind_bad, out_ok, out_bad, seq_next, seq_ret, seq_brk, seq_cnt, seq_bad, ofO_some, ofO_none, ev_var, ev_int, ev_str, ev_bl, ev_non, ev_glb, ev_op, ngI_int, ev_neg, nt_bl, ev_not, ev_and, ev_or, ev_one, ev_ife, oc_bl, ev_chain, ev_call, ev_bi, ev_isi, ev_mt, ev_ix, ev_sl, toI_int, optI_t, optI_f, ev_lst, ev_tup, ev_nil, ev_cons, ss_nil_, ss_cons_, s_set, s_own, s_par, s_ife, s_for, s_whl, s_drop, s_app, obE_s, loop_1, loop_m, s_ret, s_retN, s_nev, s_brk, s_cnt, s_pass, outO_some, outO_none, lk_nil, lk_cons, st1_0, st1_s, put_fz, put_ex, put_own, putV_nil, putV_cons, putA_nil, putA_cons, fin_next, fin_ret, fin_bad, nal_fz, nal_ex, nal_fz, nal_ex, add_ii, sub_ii, lt_ii, le_ii, gt_ii, ge_ii, is_n, isNot_n, eq_ss, ne_ss, eq_ii, ne_ii, eq_ns, in_ss, notIn_ss, kd_add_i, kd_add_s, kd_add_l, kd_mul_i, kd_sub, kd_fdiv, kd_mod, kd_pow, kd_lt, kd_le, kd_gt, kd_ge, kd_eq, kd_ne, kd_is, kd_isn, kd_in, kd_nin, ix_l, ix_t, ix_scr, map_some_, map_none_, bindO_some, bindO_none, it_any, it_A_t, it_A_s, it_A_l, it_L_fz, it_L_ex, it_L_al, it_r1, it_r2, it_r3, it_enum, it_zip, it_zip3, it_zipA, it_Z_s, it_Z_l, ev_lc, lc_fr_n, lc_fr_v, lc_free, lc_tgIx_1, lc_tgIx_m, obE_R, lc_optK_t, lc_optK_f, lc_noExc_ok, lc_noExc_bad, lc_noExc_exc, lcB_1, lcB_2, lcB_3, isO_own, isO_y, onO_eq, onO_s, bi_len_l, bi_len_scr, bi_len_t, bi_abs, bi_all, bi_any, bi_list, bi_tuple, ix_sl_l, ix_sl_scr, ix_d, ev_dlit, put_ownd, kd_mul_s, kd_mul_l, kd_mul_t, kd_inQ, kd_notInQ, kd_addS, kd_addL, isNon_n, isN_bl, isN_int, isN_str, isN_lst, isN_tup, ty_int_n, ty_int_b, ty_int_i, ty_int_s, ty_int_l, ty_int_t, ty_int_scr, ty_int_d, ty_str_n, ty_str_b, ty_str_i, ty_str_s, ty_str_l, ty_str_t, ty_str_scr, ty_str_d, ty_bool_n, ty_bool_b, ty_bool_i, ty_bool_s, ty_bool_l, ty_bool_t, ty_bool_scr, ty_bool_d, ty_list_n, ty_list_b, ty_list_i, ty_list_s, ty_list_l, ty_list_t, ty_list_scr, ty_list_d, ty_tuple_n, ty_tuple_b, ty_tuple_i, ty_tuple_s, ty_tuple_l, ty_tuple_t, ty_tuple_scr, ty_tuple_d, mtr_split, mtr_join, mtr_starts, mtr_lstrip, mtr_indexS, mtr_indexL, mtr_count, mtr_get1, mtr_get2, eq_nn_, ne_nn_, eq_nb_, ne_nb_, eq_ni_, ne_ni_, eq_bn_, ne_bn_, eq_bb_, ne_bb_, eq_bi_, ne_bi_, eq_bs_, ne_bs_, eq_in_, ne_in_, eq_ib_, ne_ib_, eq_is_, ne_is_, eq_sn_, ne_sn_, eq_sb_, ne_sb_, eq_si_, ne_si_, ne_ns_, c_mul, c_fdiv, c_mod, c_pow, c_adds, c_addl, c_ixs, lt600, lt60, lt1000, c_rng1, c_rng2, c_rng3, c_len, c_str, c_int, c_starts, c_indexS, c_sls, Nat.reduceLT, Int.reduceLT, Int.reduceLE, Int.reduceNeg, Int.reduceToNat, Int.reducePow, Int.reduceMul, Int.reduceAdd, Int.reduceSub, Bool.not_true, Bool.not_false, It.slots, E.slot, Nat.reduceBEq, Sc.d, Int.reduceEq, Nat.reduceEqDiff, f3, f4, e1, e2]
  · cases h
theorem rr__law_draw : ∀ rs o, (m__law_draw rs o).isBad = false → runDef G b__law_draw 4 rs o = m__law_draw rs o := by
  intro rs o h
  unfold m__law_draw at h
  split at h
  · refine ifBad h fun hp => ?_
    exact t1 G _ _ _ _ hp.1 hp.2.1 hp.2.2
  · cases h
theorem rr__law_number (f7 : G.fn 7 = m__law_draw) : ∀ rs o, (m__law_number rs o).isBad = false → runDef G b__law_number 4 rs o = m__law_number rs o := by
  intro rs o h
  unfold m__law_number at h
  split at h
  · refine ifBad h fun hp => ?_
    exact t2 G _ (fun c k m o h1 h2 h3 => by rw [f7]; exact if_pos ⟨h1, h2, h3⟩) _ _ _ hp.1 hp.2.1 hp.2.2.1 hp.2.2.2
  · cases h
theorem rr__law_whole : ∀ rs o, (m__law_whole rs o).isBad = false → runDef G b__law_whole 1 rs o = m__law_whole rs o := by
  intro rs o h
  unfold m__law_whole at h
  split at h
  · unfold b__law_whole
    simp only [List.length_cons, List.length_nil, Nat.reduceAdd, Nat.reduceLeDiff, if_true, List.map_cons, List.map_nil, Nat.reduceSub, List.replicate_succ, List.replicate_zero, List.cons_append, List.nil_append, List.all_cons, List.all_nil, Bool.and_true, Bool.true_and, Bool.and_self, decide_true, decide_false, Bool.false_or, Bool.or_false, List.contains_nil, if_false, Bool.false_eq_true, le_big, nal_fz, nal_fz', nal_ex', E.isHole, run_eq, reduceIte, cnd_bl, sl_0, sl_s, rd_val, rd_own, rd_ownd, pass_fz, pass_ex, pass_al, bind_ok, bind_bad, out_ok, out_bad, seq_next, seq_ret, seq_brk, seq_cnt, seq_bad, ofO_some, ofO_none, ev_var, ev_int, ev_str, ev_bl, ev_non, ev_glb, ev_op, ngI_int, ev_neg, nt_bl, ev_not, ev_and, ev_or, ev_one, ev_ife, oc_bl, ev_chain, ev_call, ev_bi, ev_isi, ev_mt, ev_ix, ev_sl, toI_int, optI_t, optI_f, ev_lst, ev_tup, ev_nil, ev_cons, ss_nil_, ss_cons_, s_set, s_own, s_par, s_ife, s_for, s_whl, s_drop, s_app, obE_s, loop_1, loop_m, s_ret, s_retN, s_nev, s_brk, s_cnt, s_pass, outO_some, outO_none, lk_nil, lk_cons, st1_0, st1_s, put_fz, put_ex, put_own, putV_nil, putV_cons, putA_nil, putA_cons, fin_next, fin_ret, fin_bad, nal_fz, nal_ex, nal_fz, nal_ex, add_ii, sub_ii, lt_ii, le_ii, gt_ii, ge_ii, is_n, isNot_n, eq_ss, ne_ss, eq_ii, ne_ii, eq_ns, in_ss, notIn_ss, kd_add_i, kd_add_s, kd_add_l, kd_mul_i, kd_sub, kd_fdiv, kd_mod, kd_pow, kd_lt, kd_le, kd_gt, kd_ge, kd_eq, kd_ne, kd_is, kd_isn, kd_in, kd_nin, ix_l, ix_t, ix_scr, map_some_, map_none_, bindO_some, bindO_none, it_any, it_A_t, it_A_s, it_A_l, it_L_fz, it_L_ex, it_L_al, it_r1, it_r2, it_r3, it_enum, it_zip, it_zip3, it_zipA, it_Z_s, it_Z_l, ev_lc, lc_fr_n, lc_fr_v, lc_free, lc_tgIx_1, lc_tgIx_m, obE_R, lc_optK_t, lc_optK_f, lc_noExc_ok, lc_noExc_bad, lc_noExc_exc, lcB_1, lcB_2, lcB_3, isO_own, isO_y, onO_eq, onO_s, bi_len_l, bi_len_scr, bi_len_t, bi_abs, bi_all, bi_any, bi_list, bi_tuple, ix_sl_l, ix_sl_scr, ix_d, ev_dlit, put_ownd, kd_mul_s, kd_mul_l, kd_mul_t, kd_inQ, kd_notInQ, kd_addS, kd_addL, isNon_n, isN_bl, isN_int, isN_str, isN_lst, isN_tup, ty_int_n, ty_int_b, ty_int_i, ty_int_s, ty_int_l, ty_int_t, ty_int_scr, ty_int_d, ty_str_n, ty_str_b, ty_str_i, ty_str_s, ty_str_l, ty_str_t, ty_str_scr, ty_str_d, ty_bool_n, ty_bool_b, ty_bool_i, ty_bool_s, ty_bool_l, ty_bool_t, ty_bool_scr, ty_bool_d, ty_list_n, ty_list_b, ty_list_i, ty_list_s, ty_list_l, ty_list_t, ty_list_scr, ty_list_d, ty_tuple_n, ty_tuple_b, ty_tuple_i, ty_tuple_s, ty_tuple_l, ty_tuple_t, ty_tuple_scr, ty_tuple_d, mtr_split, mtr_join, mtr_starts, mtr_lstrip, mtr_indexS, mtr_indexL, mtr_count, mtr_get1, mtr_get2, eq_nn_, ne_nn_, eq_nb_, ne_nb_, eq_ni_, ne_ni_, eq_bn_, ne_bn_, eq_bb_, ne_bb_, eq_bi_, ne_bi_, eq_bs_, ne_bs_, eq_in_, ne_in_, eq_ib_, ne_ib_, eq_is_, ne_is_, eq_sn_, ne_sn_, eq_sb_, ne_sb_, eq_si_, ne_si_, ne_ns_, c_mul, c_fdiv, c_mod, c_pow, c_adds, c_addl, c_ixs, lt600, lt60, lt1000, c_rng1, c_rng2, c_rng3, c_len, c_str, c_int, c_starts, c_indexS, c_sls, Nat.reduceLT, Int.reduceLT, Int.reduceLE, Int.reduceNeg, Int.reduceToNat, Int.reducePow, Int.reduceMul, Int.reduceAdd, Int.reduceSub, Bool.not_true, Bool.not_false, It.slots, E.slot, Nat.reduceBEq, Sc.d, Int.reduceEq, Nat.reduceEqDiff]
    rfl
  · unfold b__law_whole
    simp only [List.length_cons, List.length_nil, Nat.reduceAdd, Nat.reduceLeDiff, if_true, List.map_cons, List.map_nil, Nat.reduceSub, List.replicate_succ, List.replicate_zero, List.cons_append, List.nil_append, List.all_cons, List.all_nil, Bool.and_true, Bool.true_and, Bool.and_self, decide_true, decide_false, Bool.false_or, Bool.or_false, List.contains_nil, if_false, Bool.false_eq_true, le_big, nal_fz, nal_fz', nal_ex', E.isHole, run_eq, reduceIte, cnd_bl, sl_0, sl_s, rd_val, rd_own, rd_ownd, pass_fz, pass_ex, pass_al, bind_ok, bind_bad, out_ok, out_bad, seq_next, seq_ret, seq_brk, seq_cnt, seq_bad, ofO_some, ofO_none, ev_var, ev_int, ev_str, ev_bl, ev_non, ev_glb, ev_op, ngI_int, ev_neg, nt_bl, ev_not, ev_and, ev_or, ev_one, ev_ife, oc_bl, ev_chain, ev_call, ev_bi, ev_isi, ev_mt, ev_ix, ev_sl, toI_int, optI_t, optI_f, ev_lst, ev_tup, ev_nil, ev_cons, ss_nil_, ss_cons_, s_set, s_own, s_par, s_ife, s_for, s_whl, s_drop, s_app, obE_s, loop_1, loop_m, s_ret, s_retN, s_nev, s_brk, s_cnt, s_pass, outO_some, outO_none, lk_nil, lk_cons, st1_0, st1_s, put_fz, put_ex, put_own, putV_nil, putV_cons, putA_nil, putA_cons, fin_next, fin_ret, fin_bad, nal_fz, nal_ex, nal_fz, nal_ex, add_ii, sub_ii, lt_ii, le_ii, gt_ii, ge_ii, is_n, isNot_n, eq_ss, ne_ss, eq_ii, ne_ii, eq_ns, in_ss, notIn_ss, kd_add_i, kd_add_s, kd_add_l, kd_mul_i, kd_sub, kd_fdiv, kd_mod, kd_pow, kd_lt, kd_le, kd_gt, kd_ge, kd_eq, kd_ne, kd_is, kd_isn, kd_in, kd_nin, ix_l, ix_t, ix_scr, map_some_, map_none_, bindO_some, bindO_none, it_any, it_A_t, it_A_s, it_A_l, it_L_fz, it_L_ex, it_L_al, it_r1, it_r2, it_r3, it_enum, it_zip, it_zip3, it_zipA, it_Z_s, it_Z_l, ev_lc, lc_fr_n, lc_fr_v, lc_free, lc_tgIx_1, lc_tgIx_m, obE_R, lc_optK_t, lc_optK_f, lc_noExc_ok, lc_noExc_bad, lc_noExc_exc, lcB_1, lcB_2, lcB_3, isO_own, isO_y, onO_eq, onO_s, bi_len_l, bi_len_scr, bi_len_t, bi_abs, bi_all, bi_any, bi_list, bi_tuple, ix_sl_l, ix_sl_scr, ix_d, ev_dlit, put_ownd, kd_mul_s, kd_mul_l, kd_mul_t, kd_inQ, kd_notInQ, kd_addS, kd_addL, isNon_n, isN_bl, isN_int, isN_str, isN_lst, isN_tup, ty_int_n, ty_int_b, ty_int_i, ty_int_s, ty_int_l, ty_int_t, ty_int_scr, ty_int_d, ty_str_n, ty_str_b, ty_str_i, ty_str_s, ty_str_l, ty_str_t, ty_str_scr, ty_str_d, ty_bool_n, ty_bool_b, ty_bool_i, ty_bool_s, ty_bool_l, ty_bool_t, ty_bool_scr, ty_bool_d, ty_list_n, ty_list_b, ty_list_i, ty_list_s, ty_list_l, ty_list_t, ty_list_scr, ty_list_d, ty_tuple_n, ty_tuple_b, ty_tuple_i, ty_tuple_s, ty_tuple_l, ty_tuple_t, ty_tuple_scr, ty_tuple_d, mtr_split, mtr_join, mtr_starts, mtr_lstrip, mtr_indexS, mtr_indexL, mtr_count, mtr_get1, mtr_get2, eq_nn_, ne_nn_, eq_nb_, ne_nb_, eq_ni_, ne_ni_, eq_bn_, ne_bn_, eq_bb_, ne_bb_, eq_bi_, ne_bi_, eq_bs_, ne_bs_, eq_in_, ne_in_, eq_ib_, ne_ib_, eq_is_, ne_is_, eq_sn_, ne_sn_, eq_sb_, ne_sb_, eq_si_, ne_si_, ne_ns_, c_mul, c_fdiv, c_mod, c_pow, c_adds, c_addl, c_ixs, lt600, lt60, lt1000, c_rng1, c_rng2, c_rng3, c_len, c_str, c_int, c_starts, c_indexS, c_sls, Nat.reduceLT, Int.reduceLT, Int.reduceLE, Int.reduceNeg, Int.reduceToNat, Int.reducePow, Int.reduceMul, Int.reduceAdd, Int.reduceSub, Bool.not_true, Bool.not_false, It.slots, E.slot, Nat.reduceBEq, Sc.d, Int.reduceEq, Nat.reduceEqDiff]
    rfl
  · cases h
end
end B
end

section
set_option Elab.async false
set_option linter.all false
set_option maxRecDepth 100000
set_option maxHeartbeats 1000000
/-! N6: the law's own numerals, walked. -/
namespace B
/-- a walk over a range -/
theorem rng_walk {f : D → Env → Objs → Out} (n : Nat) (lo : Int) (I : Nat → Env → Objs → Prop) (Z : Out → Prop)
    (h : ∀ i en o, i < n → I i en o → Step (I (i + 1)) Z (f (.int (lo + i)) en o)) (h0 : ∀ en o, I n en o → Z (.next en o)) (en : Env) (o : Objs) (hI : I 0 en o) : Z (forGo f (rngD lo 1 n) en o) := by
  refine for_walkD (fun rem en o => ∃ i, i ≤ n ∧ rem = rngD (lo + i) 1 (n - i) ∧ I i en o) Z ?_ ?_ _ en o ⟨0, Nat.zero_le _, by simp, hI⟩
  · rintro x r en o ⟨i, hi, e, hI⟩
    by_cases hn : i = n
    · subst hn
      rw [Nat.sub_self] at e; cases e
    · obtain ⟨m, hm⟩ : ∃ m, n - i = m + 1 := ⟨n - i - 1, by omega⟩
      rw [hm] at e
      simp only [rngD, List.cons.injEq] at e
      obtain ⟨rfl, rfl⟩ := e
      have hs := h i en o (by omega) hI
      have : ∀ {J J' : Env → Objs → Prop} {y : Out}, (∀ en o, J en o → J' en o) → Step J Z y → Step J' Z y := by
        intro J J' y hj hy
        cases y <;> first | exact hj _ _ hy | exact hy
      refine this (fun en o hJ => ⟨i + 1, by omega, ?_, hJ⟩) hs
      rw [show n - (i + 1) = m by omega]
      congr 1
      push_cast; omega
  · rintro en o ⟨i, hi, e, hI⟩
    have : i = n := by
      by_cases hn : i = n
      · exact hn
      · obtain ⟨m, hm⟩ : ∃ m, n - i = m + 1 := ⟨n - i - 1, by omega⟩
        rw [hm] at e; cases e
    subst this
    exact h0 en o hI
section
variable (G : Sg)
theorem rr__law_pow : ∀ rs o, (m__law_pow rs o).isBad = false → runDef G b__law_pow 3 rs o = m__law_pow rs o := by
  intro rs o h
  unfold m__law_pow at h
  split at h
  · refine ifBad h fun hp => ?_
    rename_i _ n
    obtain ⟨a, b⟩ := hp
    obtain ⟨m, rfl⟩ := Int.eq_ofNat_of_zero_le a
    rw [Int.toNat_natCast]
    have e1 : itR1 ⟨.int m, .fz⟩ o = .ok (rngD 0 1 m, []) o := by
      rw [c_rng1 _ _ (by omega) (by omega), Int.toNat_natCast]
    unfold b__law_pow
    simp only [List.length_cons, List.length_nil, Nat.reduceAdd, Nat.reduceLeDiff, if_true, List.map_cons, List.map_nil, Nat.reduceSub, List.replicate_succ, List.replicate_zero, List.cons_append, List.nil_append, List.all_cons, List.all_nil, Bool.and_true, Bool.true_and, Bool.and_self, decide_true, decide_false, Bool.false_or, Bool.or_false, List.contains_nil, if_false, Bool.false_eq_true, le_big, nal_fz, nal_fz', nal_ex', E.isHole, run_eq, reduceIte, cnd_bl, sl_0, sl_s, rd_val, rd_own, rd_ownd, pass_fz, pass_ex, pass_al, bind_ok, bind_bad, out_ok, out_bad, seq_next, seq_ret, seq_brk, seq_cnt, seq_bad, ofO_some, ofO_none, ev_var, ev_int, ev_str, ev_bl, ev_non, ev_glb, ev_op, ngI_int, ev_neg, nt_bl, ev_not, ev_and, ev_or, ev_one, ev_ife, oc_bl, ev_chain, ev_call, ev_bi, ev_isi, ev_mt, ev_ix, ev_sl, toI_int, optI_t, optI_f, ev_lst, ev_tup, ev_nil, ev_cons, ss_nil_, ss_cons_, s_set, s_own, s_par, s_ife, s_for, s_whl, s_drop, s_app, obE_s, loop_1, loop_m, s_ret, s_retN, s_nev, s_brk, s_cnt, s_pass, outO_some, outO_none, lk_nil, lk_cons, st1_0, st1_s, put_fz, put_ex, put_own, putV_nil, putV_cons, putA_nil, putA_cons, fin_next, fin_ret, fin_bad, nal_fz, nal_ex, nal_fz, nal_ex, add_ii, sub_ii, lt_ii, le_ii, gt_ii, ge_ii, is_n, isNot_n, eq_ss, ne_ss, eq_ii, ne_ii, eq_ns, in_ss, notIn_ss, kd_add_i, kd_add_s, kd_add_l, kd_mul_i, kd_sub, kd_fdiv, kd_mod, kd_pow, kd_lt, kd_le, kd_gt, kd_ge, kd_eq, kd_ne, kd_is, kd_isn, kd_in, kd_nin, ix_l, ix_t, ix_scr, map_some_, map_none_, bindO_some, bindO_none, it_any, it_A_t, it_A_s, it_A_l, it_L_fz, it_L_ex, it_L_al, it_r1, it_r2, it_r3, it_enum, it_zip, it_zip3, it_zipA, it_Z_s, it_Z_l, ev_lc, lc_fr_n, lc_fr_v, lc_free, lc_tgIx_1, lc_tgIx_m, obE_R, lc_optK_t, lc_optK_f, lc_noExc_ok, lc_noExc_bad, lc_noExc_exc, lcB_1, lcB_2, lcB_3, isO_own, isO_y, onO_eq, onO_s, bi_len_l, bi_len_scr, bi_len_t, bi_abs, bi_all, bi_any, bi_list, bi_tuple, ix_sl_l, ix_sl_scr, ix_d, ev_dlit, put_ownd, kd_mul_s, kd_mul_l, kd_mul_t, kd_inQ, kd_notInQ, kd_addS, kd_addL, isNon_n, isN_bl, isN_int, isN_str, isN_lst, isN_tup, ty_int_n, ty_int_b, ty_int_i, ty_int_s, ty_int_l, ty_int_t, ty_int_scr, ty_int_d, ty_str_n, ty_str_b, ty_str_i, ty_str_s, ty_str_l, ty_str_t, ty_str_scr, ty_str_d, ty_bool_n, ty_bool_b, ty_bool_i, ty_bool_s, ty_bool_l, ty_bool_t, ty_bool_scr, ty_bool_d, ty_list_n, ty_list_b, ty_list_i, ty_list_s, ty_list_l, ty_list_t, ty_list_scr, ty_list_d, ty_tuple_n, ty_tuple_b, ty_tuple_i, ty_tuple_s, ty_tuple_l, ty_tuple_t, ty_tuple_scr, ty_tuple_d, mtr_split, mtr_join, mtr_starts, mtr_lstrip, mtr_indexS, mtr_indexL, mtr_count, mtr_get1, mtr_get2, eq_nn_, ne_nn_, eq_nb_, ne_nb_, eq_ni_, ne_ni_, eq_bn_, ne_bn_, eq_bb_, ne_bb_, eq_bi_, ne_bi_, eq_bs_, ne_bs_, eq_in_, ne_in_, eq_ib_, ne_ib_, eq_is_, ne_is_, eq_sn_, ne_sn_, eq_sb_, ne_sb_, eq_si_, ne_si_, ne_ns_, c_mul, c_fdiv, c_mod, c_pow, c_adds, c_addl, c_ixs, lt600, lt60, lt1000, c_rng1, c_rng2, c_rng3, c_len, c_str, c_int, c_starts, c_indexS, c_sls, Nat.reduceLT, Int.reduceLT, Int.reduceLE, Int.reduceNeg, Int.reduceToNat, Int.reducePow, Int.reduceMul, Int.reduceAdd, Int.reduceSub, Bool.not_true, Bool.not_false, It.slots, E.slot, Nat.reduceBEq, Sc.d, Int.reduceEq, Nat.reduceEqDiff, e1]
    refine rng_walk m 0 (fun i en o' => o' = o ∧ ∃ s2, en = [.val ⟨.int m, .fz⟩, .val ⟨.int ((26 ^ i : Nat) : Int), .fz⟩, s2]) (fun x => fin (x.seq _) = _) ?_ ?_ _ _ ⟨rfl, _, rfl⟩
    · rintro i en o' hi ⟨rfl, s2, rfl⟩
      have h26 : 26 ^ i ≤ 26 ^ 20 := Nat.pow_le_pow_right (by decide) (by omega)
      have e3 : Op.mul.ev (.int ((26 ^ i : Nat) : Int)) (.int 26) = some (.int ((26 ^ (i + 1) : Nat) : Int)) := by
        rw [c_mul (Nat.lt_of_le_of_lt (m := 26 ^ 20) (by rw [Int.natAbs_natCast]; exact h26) (by decide)) (by decide), Nat.pow_succ, Int.natCast_mul]; rfl
      simp only [List.length_cons, List.length_nil, Nat.reduceAdd, Nat.reduceLeDiff, if_true, List.map_cons, List.map_nil, Nat.reduceSub, List.replicate_succ, List.replicate_zero, List.cons_append, List.nil_append, List.all_cons, List.all_nil, Bool.and_true, Bool.true_and, Bool.and_self, decide_true, decide_false, Bool.false_or, Bool.or_false, List.contains_nil, if_false, Bool.false_eq_true, le_big, nal_fz, nal_fz', nal_ex', E.isHole, run_eq, reduceIte, cnd_bl, sl_0, sl_s, rd_val, rd_own, rd_ownd, pass_fz, pass_ex, pass_al, bind_ok, bind_bad, out_ok, out_bad, seq_next, seq_ret, seq_brk, seq_cnt, seq_bad, ofO_some, ofO_none, ev_var, ev_int, ev_str, ev_bl, ev_non, ev_glb, ev_op, ngI_int, ev_neg, nt_bl, ev_not, ev_and, ev_or, ev_one, ev_ife, oc_bl, ev_chain, ev_call, ev_bi, ev_isi, ev_mt, ev_ix, ev_sl, toI_int, optI_t, optI_f, ev_lst, ev_tup, ev_nil, ev_cons, ss_nil_, ss_cons_, s_set, s_own, s_par, s_ife, s_for, s_whl, s_drop, s_app, obE_s, loop_1, loop_m, s_ret, s_retN, s_nev, s_brk, s_cnt, s_pass, outO_some, outO_none, lk_nil, lk_cons, st1_0, st1_s, put_fz, put_ex, put_own, putV_nil, putV_cons, putA_nil, putA_cons, fin_next, fin_ret, fin_bad, nal_fz, nal_ex, nal_fz, nal_ex, add_ii, sub_ii, lt_ii, le_ii, gt_ii, ge_ii, is_n, isNot_n, eq_ss, ne_ss, eq_ii, ne_ii, eq_ns, in_ss, notIn_ss, kd_add_i, kd_add_s, kd_add_l, kd_mul_i, kd_sub, kd_fdiv, kd_mod, kd_pow, kd_lt, kd_le, kd_gt, kd_ge, kd_eq, kd_ne, kd_is, kd_isn, kd_in, kd_nin, ix_l, ix_t, ix_scr, map_some_, map_none_, bindO_some, bindO_none, it_any, it_A_t, it_A_s, it_A_l, it_L_fz, it_L_ex, it_L_al, it_r1, it_r2, it_r3, it_enum, it_zip, it_zip3, it_zipA, it_Z_s, it_Z_l, ev_lc, lc_fr_n, lc_fr_v, lc_free, lc_tgIx_1, lc_tgIx_m, obE_R, lc_optK_t, lc_optK_f, lc_noExc_ok, lc_noExc_bad, lc_noExc_exc, lcB_1, lcB_2, lcB_3, isO_own, isO_y, onO_eq, onO_s, bi_len_l, bi_len_scr, bi_len_t, bi_abs, bi_all, bi_any, bi_list, bi_tuple, ix_sl_l, ix_sl_scr, ix_d, ev_dlit, put_ownd, kd_mul_s, kd_mul_l, kd_mul_t, kd_inQ, kd_notInQ, kd_addS, kd_addL, isNon_n, isN_bl, isN_int, isN_str, isN_lst, isN_tup, ty_int_n, ty_int_b, ty_int_i, ty_int_s, ty_int_l, ty_int_t, ty_int_scr, ty_int_d, ty_str_n, ty_str_b, ty_str_i, ty_str_s, ty_str_l, ty_str_t, ty_str_scr, ty_str_d, ty_bool_n, ty_bool_b, ty_bool_i, ty_bool_s, ty_bool_l, ty_bool_t, ty_bool_scr, ty_bool_d, ty_list_n, ty_list_b, ty_list_i, ty_list_s, ty_list_l, ty_list_t, ty_list_scr, ty_list_d, ty_tuple_n, ty_tuple_b, ty_tuple_i, ty_tuple_s, ty_tuple_l, ty_tuple_t, ty_tuple_scr, ty_tuple_d, mtr_split, mtr_join, mtr_starts, mtr_lstrip, mtr_indexS, mtr_indexL, mtr_count, mtr_get1, mtr_get2, eq_nn_, ne_nn_, eq_nb_, ne_nb_, eq_ni_, ne_ni_, eq_bn_, ne_bn_, eq_bb_, ne_bb_, eq_bi_, ne_bi_, eq_bs_, ne_bs_, eq_in_, ne_in_, eq_ib_, ne_ib_, eq_is_, ne_is_, eq_sn_, ne_sn_, eq_sb_, ne_sb_, eq_si_, ne_si_, ne_ns_, c_mul, c_fdiv, c_mod, c_pow, c_adds, c_addl, c_ixs, lt600, lt60, lt1000, c_rng1, c_rng2, c_rng3, c_len, c_str, c_int, c_starts, c_indexS, c_sls, Nat.reduceLT, Int.reduceLT, Int.reduceLE, Int.reduceNeg, Int.reduceToNat, Int.reducePow, Int.reduceMul, Int.reduceAdd, Int.reduceSub, Bool.not_true, Bool.not_false, It.slots, E.slot, Nat.reduceBEq, Sc.d, Int.reduceEq, Nat.reduceEqDiff, e3]
      exact ⟨rfl, _, rfl⟩
    · rintro en o' ⟨rfl, s2, rfl⟩
      simp only [List.length_cons, List.length_nil, Nat.reduceAdd, Nat.reduceLeDiff, if_true, List.map_cons, List.map_nil, Nat.reduceSub, List.replicate_succ, List.replicate_zero, List.cons_append, List.nil_append, List.all_cons, List.all_nil, Bool.and_true, Bool.true_and, Bool.and_self, decide_true, decide_false, Bool.false_or, Bool.or_false, List.contains_nil, if_false, Bool.false_eq_true, le_big, nal_fz, nal_fz', nal_ex', E.isHole, run_eq, reduceIte, cnd_bl, sl_0, sl_s, rd_val, rd_own, rd_ownd, pass_fz, pass_ex, pass_al, bind_ok, bind_bad, out_ok, out_bad, seq_next, seq_ret, seq_brk, seq_cnt, seq_bad, ofO_some, ofO_none, ev_var, ev_int, ev_str, ev_bl, ev_non, ev_glb, ev_op, ngI_int, ev_neg, nt_bl, ev_not, ev_and, ev_or, ev_one, ev_ife, oc_bl, ev_chain, ev_call, ev_bi, ev_isi, ev_mt, ev_ix, ev_sl, toI_int, optI_t, optI_f, ev_lst, ev_tup, ev_nil, ev_cons, ss_nil_, ss_cons_, s_set, s_own, s_par, s_ife, s_for, s_whl, s_drop, s_app, obE_s, loop_1, loop_m, s_ret, s_retN, s_nev, s_brk, s_cnt, s_pass, outO_some, outO_none, lk_nil, lk_cons, st1_0, st1_s, put_fz, put_ex, put_own, putV_nil, putV_cons, putA_nil, putA_cons, fin_next, fin_ret, fin_bad, nal_fz, nal_ex, nal_fz, nal_ex, add_ii, sub_ii, lt_ii, le_ii, gt_ii, ge_ii, is_n, isNot_n, eq_ss, ne_ss, eq_ii, ne_ii, eq_ns, in_ss, notIn_ss, kd_add_i, kd_add_s, kd_add_l, kd_mul_i, kd_sub, kd_fdiv, kd_mod, kd_pow, kd_lt, kd_le, kd_gt, kd_ge, kd_eq, kd_ne, kd_is, kd_isn, kd_in, kd_nin, ix_l, ix_t, ix_scr, map_some_, map_none_, bindO_some, bindO_none, it_any, it_A_t, it_A_s, it_A_l, it_L_fz, it_L_ex, it_L_al, it_r1, it_r2, it_r3, it_enum, it_zip, it_zip3, it_zipA, it_Z_s, it_Z_l, ev_lc, lc_fr_n, lc_fr_v, lc_free, lc_tgIx_1, lc_tgIx_m, obE_R, lc_optK_t, lc_optK_f, lc_noExc_ok, lc_noExc_bad, lc_noExc_exc, lcB_1, lcB_2, lcB_3, isO_own, isO_y, onO_eq, onO_s, bi_len_l, bi_len_scr, bi_len_t, bi_abs, bi_all, bi_any, bi_list, bi_tuple, ix_sl_l, ix_sl_scr, ix_d, ev_dlit, put_ownd, kd_mul_s, kd_mul_l, kd_mul_t, kd_inQ, kd_notInQ, kd_addS, kd_addL, isNon_n, isN_bl, isN_int, isN_str, isN_lst, isN_tup, ty_int_n, ty_int_b, ty_int_i, ty_int_s, ty_int_l, ty_int_t, ty_int_scr, ty_int_d, ty_str_n, ty_str_b, ty_str_i, ty_str_s, ty_str_l, ty_str_t, ty_str_scr, ty_str_d, ty_bool_n, ty_bool_b, ty_bool_i, ty_bool_s, ty_bool_l, ty_bool_t, ty_bool_scr, ty_bool_d, ty_list_n, ty_list_b, ty_list_i, ty_list_s, ty_list_l, ty_list_t, ty_list_scr, ty_list_d, ty_tuple_n, ty_tuple_b, ty_tuple_i, ty_tuple_s, ty_tuple_l, ty_tuple_t, ty_tuple_scr, ty_tuple_d, mtr_split, mtr_join, mtr_starts, mtr_lstrip, mtr_indexS, mtr_indexL, mtr_count, mtr_get1, mtr_get2, eq_nn_, ne_nn_, eq_nb_, ne_nb_, eq_ni_, ne_ni_, eq_bn_, ne_bn_, eq_bb_, ne_bb_, eq_bi_, ne_bi_, eq_bs_, ne_bs_, eq_in_, ne_in_, eq_ib_, ne_ib_, eq_is_, ne_is_, eq_sn_, ne_sn_, eq_sb_, ne_sb_, eq_si_, ne_si_, ne_ns_, c_mul, c_fdiv, c_mod, c_pow, c_adds, c_addl, c_ixs, lt600, lt60, lt1000, c_rng1, c_rng2, c_rng3, c_len, c_str, c_int, c_starts, c_indexS, c_sls, Nat.reduceLT, Int.reduceLT, Int.reduceLE, Int.reduceNeg, Int.reduceToNat, Int.reducePow, Int.reduceMul, Int.reduceAdd, Int.reduceSub, Bool.not_true, Bool.not_false, It.slots, E.slot, Nat.reduceBEq, Sc.d, Int.reduceEq, Nat.reduceEqDiff]
  · cases h
theorem lm_ok (n : Nat) (h1 : 1 ≤ n) (h2 : n ≤ 3099) : (lmW 5 1 (n - 1)).1 ≤ 3 := by
  obtain ⟨l, rfl⟩ : ∃ l, n = l + 1 := ⟨n - 1, by omega⟩
  rw [Nat.add_sub_cancel]
  simp only [lmW]
  split
  · split
    · split
      · omega
      · simp
    · simp
  · simp
def lD (p : Nat × Txt × Txt × Txt) : D := .tup [.int p.1, .str p.2.1, .str p.2.2.1, .str p.2.2.2]
theorem lfig_at (i : Nat) (h : i < 10) : atI (lfig.map D.str) (i : Int) = some (.str (lfig.getD i [])) :=
  (by decide +kernel : ∀ i : Fin 10, (match atI (lfig.map D.str) (i.val : Int) with | some (.str t) => t == lfig.getD i.val [] | _ => false) = true) ⟨i, h⟩ |> fun h => by
    revert h
    cases atI (lfig.map D.str) (i : Int) with
    | none => intro h; cases h
    | some d =>
      cases d <;> intro h <;> first | (rw [beq_iff_eq.1 h]) | cases h
theorem w10L (f9 : G.fn 9 = m__law_pow) (n : Nat) (h1 : 1 ≤ n) (h2 : n ≤ 3099) (o : Objs) : runDef G b__law_numeral 12 [⟨.int n, .fz⟩, ⟨.str kL, .fz⟩] o = .ok ⟨.str (lawNumF n kL), .fz⟩ o := by
  have hl : lawNumF n kL = lmD (lmW 5 1 (n - 1)).1 (lmW 5 1 (n - 1)).2 [] := by
    unfold lawNumF; rw [if_neg (by decide), if_pos rfl]
  rw [hl]
  have hM := lm_ok n h1 h2
  obtain ⟨M, hM'⟩ : ∃ M, (lmW 5 1 (n - 1)) = M := ⟨_, rfl⟩
  rw [hM'] at hM ⊢
  obtain ⟨M, L⟩ := M
  obtain ⟨F, hF⟩ : ∃ F, lmD M L [] = F := ⟨_, rfl⟩
  have hM : M ≤ 3 := hM
  show _ = Rs.ok (⟨.str (lmD M L []), .fz⟩ : R) o
  rw [hF]
  have e0 : ((n : Int) - 1) = ((n - 1 : Nat) : Int) := by omega
  unfold b__law_numeral
  simp only [List.length_cons, List.length_nil, Nat.reduceAdd, Nat.reduceLeDiff, if_true, List.map_cons, List.map_nil, Nat.reduceSub, List.replicate_succ, List.replicate_zero, List.cons_append, List.nil_append, List.all_cons, List.all_nil, Bool.and_true, Bool.true_and, Bool.and_self, decide_true, decide_false, Bool.false_or, Bool.or_false, List.contains_nil, if_false, Bool.false_eq_true, le_big, nal_fz, nal_fz', nal_ex', E.isHole, run_eq, reduceIte, cnd_bl, sl_0, sl_s, rd_val, rd_own, rd_ownd, pass_fz, pass_ex, pass_al, bind_ok, bind_bad, out_ok, out_bad, seq_next, seq_ret, seq_brk, seq_cnt, seq_bad, ofO_some, ofO_none, ev_var, ev_int, ev_str, ev_bl, ev_non, ev_glb, ev_op, ngI_int, ev_neg, nt_bl, ev_not, ev_and, ev_or, ev_one, ev_ife, oc_bl, ev_chain, ev_call, ev_bi, ev_isi, ev_mt, ev_ix, ev_sl, toI_int, optI_t, optI_f, ev_lst, ev_tup, ev_nil, ev_cons, ss_nil_, ss_cons_, s_set, s_own, s_par, s_ife, s_for, s_whl, s_drop, s_app, obE_s, loop_1, loop_m, s_ret, s_retN, s_nev, s_brk, s_cnt, s_pass, outO_some, outO_none, lk_nil, lk_cons, st1_0, st1_s, put_fz, put_ex, put_own, putV_nil, putV_cons, putA_nil, putA_cons, fin_next, fin_ret, fin_bad, nal_fz, nal_ex, nal_fz, nal_ex, add_ii, sub_ii, lt_ii, le_ii, gt_ii, ge_ii, is_n, isNot_n, eq_ss, ne_ss, eq_ii, ne_ii, eq_ns, in_ss, notIn_ss, kd_add_i, kd_add_s, kd_add_l, kd_mul_i, kd_sub, kd_fdiv, kd_mod, kd_pow, kd_lt, kd_le, kd_gt, kd_ge, kd_eq, kd_ne, kd_is, kd_isn, kd_in, kd_nin, ix_l, ix_t, ix_scr, map_some_, map_none_, bindO_some, bindO_none, it_any, it_A_t, it_A_s, it_A_l, it_L_fz, it_L_ex, it_L_al, it_r1, it_r2, it_r3, it_enum, it_zip, it_zip3, it_zipA, it_Z_s, it_Z_l, ev_lc, lc_fr_n, lc_fr_v, lc_free, lc_tgIx_1, lc_tgIx_m, obE_R, lc_optK_t, lc_optK_f, lc_noExc_ok, lc_noExc_bad, lc_noExc_exc, lcB_1, lcB_2, lcB_3, isO_own, isO_y, onO_eq, onO_s, bi_len_l, bi_len_scr, bi_len_t, bi_abs, bi_all, bi_any, bi_list, bi_tuple, ix_sl_l, ix_sl_scr, ix_d, ev_dlit, put_ownd, kd_mul_s, kd_mul_l, kd_mul_t, kd_inQ, kd_notInQ, kd_addS, kd_addL, isNon_n, isN_bl, isN_int, isN_str, isN_lst, isN_tup, ty_int_n, ty_int_b, ty_int_i, ty_int_s, ty_int_l, ty_int_t, ty_int_scr, ty_int_d, ty_str_n, ty_str_b, ty_str_i, ty_str_s, ty_str_l, ty_str_t, ty_str_scr, ty_str_d, ty_bool_n, ty_bool_b, ty_bool_i, ty_bool_s, ty_bool_l, ty_bool_t, ty_bool_scr, ty_bool_d, ty_list_n, ty_list_b, ty_list_i, ty_list_s, ty_list_l, ty_list_t, ty_list_scr, ty_list_d, ty_tuple_n, ty_tuple_b, ty_tuple_i, ty_tuple_s, ty_tuple_l, ty_tuple_t, ty_tuple_scr, ty_tuple_d, mtr_split, mtr_join, mtr_starts, mtr_lstrip, mtr_indexS, mtr_indexL, mtr_count, mtr_get1, mtr_get2, eq_nn_, ne_nn_, eq_nb_, ne_nb_, eq_ni_, ne_ni_, eq_bn_, ne_bn_, eq_bb_, ne_bb_, eq_bi_, ne_bi_, eq_bs_, ne_bs_, eq_in_, ne_in_, eq_ib_, ne_ib_, eq_is_, ne_is_, eq_sn_, ne_sn_, eq_sb_, ne_sb_, eq_si_, ne_si_, ne_ns_, c_mul, c_fdiv, c_mod, c_pow, c_adds, c_addl, c_ixs, lt600, lt60, lt1000, c_rng1, c_rng2, c_rng3, c_len, c_str, c_int, c_starts, c_indexS, c_sls, Nat.reduceLT, Int.reduceLT, Int.reduceLE, Int.reduceNeg, Int.reduceToNat, Int.reducePow, Int.reduceMul, Int.reduceAdd, Int.reduceSub, Bool.not_true, Bool.not_false, It.slots, E.slot, Nat.reduceBEq, Sc.d, Int.reduceEq, Nat.reduceEqDiff, kk_LF, kk_LL, e0]
  have hab : ([97, 98, 99, 100, 101, 102, 103, 104, 105, 106, 107, 108, 109, 110, 111, 112, 113, 114, 115, 116, 117, 118, 119, 120, 121, 122] : Txt) = abc := rfl
  have hp0 : ∀ o, m__law_pow [⟨.int 0, .fz⟩] o = .ok ⟨.int 1, .fz⟩ o := fun o => rfl
  have hp1 : ∀ o, m__law_pow [⟨.int 1, .fz⟩] o = .ok ⟨.int 26, .fz⟩ o := fun o => rfl
  have hp2 : ∀ o, m__law_pow [⟨.int 2, .fz⟩] o = .ok ⟨.int 676, .fz⟩ o := fun o => rfl
  have hm0 : Op.mul.ev (.int 26) (.int 1) = some (.int 26) := rfl
  have hm1 : Op.mul.ev (.int 26) (.int 26) = some (.int 676) := rfl
  have hm2 : Op.mul.ev (.int 26) (.int 676) = some (.int 17576) := rfl
  refine whl_walk (fun q en o' => o' = o ∧ ∃ (m l : Nat) (s2 s4 s5 s6 s7 s8 s9 : Slot), en = [.val ⟨.int n, .fz⟩, .val ⟨.str kL, .fz⟩, s2, .val ⟨.str [], .fz⟩, s4, s5, s6, s7, s8, s9, .val ⟨.int m, .fz⟩, .val ⟨.int l, .fz⟩] ∧ q + m = 6 ∧ lmW q m l = (M, L) ∧ ((m = 1 ∧ l ≤ 3098) ∨ (m = 2 ∧ l ≤ 3072) ∨ (m = 3 ∧ l ≤ 2396))) (fun x => fin (Out.seq (x.seq _) _) = _) ?_ 100000 5 _ _ (by omega) ⟨rfl, 1, n - 1, _, _, _, _, _, _, _, rfl, rfl, hM', by omega⟩
  rintro q en o' ⟨rfl, m, l, s2, s4, s5, s6, s7, s8, s9, rfl, hq, hw, hc⟩
  have stp : ∀ (m c : Nat) (C : Int) (l : Nat), (C : Int) = c → 0 < c → m ≤ 3 → (26 * 26 ^ (m - 1) = c) → 
      lmW q m l = (M, L) → q + m = 6 → (l < c → (M, L) = (m, l)) ∧ (c ≤ l → lmW (q - 1) (m + 1) (l - c) = (M, L)) := by
    intro m c C l hC hc0 hm3 hcc hw hq
    obtain ⟨p, rfl⟩ : ∃ p, q = p + 1 := ⟨q - 1, by omega⟩
    simp only [lmW, hcc] at hw
    constructor
    · intro h; rw [if_neg (by omega)] at hw; exact hw.symm
    · intro h; rw [if_pos h] at hw; exact hw
  have fini : ∀ (K : Ss) (l m : Nat), (M, L) = (m, l) → fin (Out.seq (Out.seq (.next [.val ⟨.int n, .fz⟩, .val ⟨.str kL, .fz⟩, s2, .val ⟨.str [], .fz⟩, s4, s5, s6, s7, s8, s9, .val ⟨.int m, .fz⟩, .val ⟨.int l, .fz⟩] o') (Ss.ev G (Ss.cons (S.for (Tg.one 2) (It.rng1 (E.var 10)) (Ss.cons (S.par [(3, false), (11, false)] (Es.cons (E.op Op.add (E.ix (E.str abc) (E.op Op.modI (E.var 11) (E.int 26))) (E.var 3)) (Es.cons (E.op Op.fdivI (E.var 11) (E.int 26)) Es.nil))) Ss.nil)) (Ss.cons (S.ret (E.var 3)) Ss.nil)) [])) (Ss.ev G K [])) = Rs.ok (⟨.str F, .fz⟩ : R) o' := by
    intro K l m e
    cases e
    have e1 : itR1 ⟨.int M, .fz⟩ o' = .ok (rngD 0 1 M, []) o' := by
      rw [c_rng1 _ _ (by omega) (by omega), Int.toNat_natCast]
    simp only [List.length_cons, List.length_nil, Nat.reduceAdd, Nat.reduceLeDiff, if_true, List.map_cons, List.map_nil, Nat.reduceSub, List.replicate_succ, List.replicate_zero, List.cons_append, List.nil_append, List.all_cons, List.all_nil, Bool.and_true, Bool.true_and, Bool.and_self, decide_true, decide_false, Bool.false_or, Bool.or_false, List.contains_nil, if_false, Bool.false_eq_true, le_big, nal_fz, nal_fz', nal_ex', E.isHole, run_eq, reduceIte, cnd_bl, sl_0, sl_s, rd_val, rd_own, rd_ownd, pass_fz, pass_ex, pass_al, bind_ok, bind_bad, out_ok, out_bad, seq_next, seq_ret, seq_brk, seq_cnt, seq_bad, ofO_some, ofO_none, ev_var, ev_int, ev_str, ev_bl, ev_non, ev_glb, ev_op, ngI_int, ev_neg, nt_bl, ev_not, ev_and, ev_or, ev_one, ev_ife, oc_bl, ev_chain, ev_call, ev_bi, ev_isi, ev_mt, ev_ix, ev_sl, toI_int, optI_t, optI_f, ev_lst, ev_tup, ev_nil, ev_cons, ss_nil_, ss_cons_, s_set, s_own, s_par, s_ife, s_for, s_whl, s_drop, s_app, obE_s, loop_1, loop_m, s_ret, s_retN, s_nev, s_brk, s_cnt, s_pass, outO_some, outO_none, lk_nil, lk_cons, st1_0, st1_s, put_fz, put_ex, put_own, putV_nil, putV_cons, putA_nil, putA_cons, fin_next, fin_ret, fin_bad, nal_fz, nal_ex, nal_fz, nal_ex, add_ii, sub_ii, lt_ii, le_ii, gt_ii, ge_ii, is_n, isNot_n, eq_ss, ne_ss, eq_ii, ne_ii, eq_ns, in_ss, notIn_ss, kd_add_i, kd_add_s, kd_add_l, kd_mul_i, kd_sub, kd_fdiv, kd_mod, kd_pow, kd_lt, kd_le, kd_gt, kd_ge, kd_eq, kd_ne, kd_is, kd_isn, kd_in, kd_nin, ix_l, ix_t, ix_scr, map_some_, map_none_, bindO_some, bindO_none, it_any, it_A_t, it_A_s, it_A_l, it_L_fz, it_L_ex, it_L_al, it_r1, it_r2, it_r3, it_enum, it_zip, it_zip3, it_zipA, it_Z_s, it_Z_l, ev_lc, lc_fr_n, lc_fr_v, lc_free, lc_tgIx_1, lc_tgIx_m, obE_R, lc_optK_t, lc_optK_f, lc_noExc_ok, lc_noExc_bad, lc_noExc_exc, lcB_1, lcB_2, lcB_3, isO_own, isO_y, onO_eq, onO_s, bi_len_l, bi_len_scr, bi_len_t, bi_abs, bi_all, bi_any, bi_list, bi_tuple, ix_sl_l, ix_sl_scr, ix_d, ev_dlit, put_ownd, kd_mul_s, kd_mul_l, kd_mul_t, kd_inQ, kd_notInQ, kd_addS, kd_addL, isNon_n, isN_bl, isN_int, isN_str, isN_lst, isN_tup, ty_int_n, ty_int_b, ty_int_i, ty_int_s, ty_int_l, ty_int_t, ty_int_scr, ty_int_d, ty_str_n, ty_str_b, ty_str_i, ty_str_s, ty_str_l, ty_str_t, ty_str_scr, ty_str_d, ty_bool_n, ty_bool_b, ty_bool_i, ty_bool_s, ty_bool_l, ty_bool_t, ty_bool_scr, ty_bool_d, ty_list_n, ty_list_b, ty_list_i, ty_list_s, ty_list_l, ty_list_t, ty_list_scr, ty_list_d, ty_tuple_n, ty_tuple_b, ty_tuple_i, ty_tuple_s, ty_tuple_l, ty_tuple_t, ty_tuple_scr, ty_tuple_d, mtr_split, mtr_join, mtr_starts, mtr_lstrip, mtr_indexS, mtr_indexL, mtr_count, mtr_get1, mtr_get2, eq_nn_, ne_nn_, eq_nb_, ne_nb_, eq_ni_, ne_ni_, eq_bn_, ne_bn_, eq_bb_, ne_bb_, eq_bi_, ne_bi_, eq_bs_, ne_bs_, eq_in_, ne_in_, eq_ib_, ne_ib_, eq_is_, ne_is_, eq_sn_, ne_sn_, eq_sb_, ne_sb_, eq_si_, ne_si_, ne_ns_, c_mul, c_fdiv, c_mod, c_pow, c_adds, c_addl, c_ixs, lt600, lt60, lt1000, c_rng1, c_rng2, c_rng3, c_len, c_str, c_int, c_starts, c_indexS, c_sls, Nat.reduceLT, Int.reduceLT, Int.reduceLE, Int.reduceNeg, Int.reduceToNat, Int.reducePow, Int.reduceMul, Int.reduceAdd, Int.reduceSub, Bool.not_true, Bool.not_false, It.slots, E.slot, Nat.reduceBEq, Sc.d, Int.reduceEq, Nat.reduceEqDiff, e1]
    refine rng_walk M 0 (fun i en o'' => o'' = o' ∧ ∃ (a : Txt) (l : Nat) (s2 : Slot), en = [.val ⟨.int n, .fz⟩, .val ⟨.str kL, .fz⟩, s2, .val ⟨.str a, .fz⟩, s4, s5, s6, s7, s8, s9, .val ⟨.int M, .fz⟩, .val ⟨.int l, .fz⟩] ∧ a.length ≤ i ∧ lmD (M - i) l a = F) (fun x => fin (Out.seq (x.seq _) _) = _) ?_ ?_ _ _ ⟨rfl, _, _, _, rfl, by simp, hF⟩
    · rintro i en o'' hi ⟨rfl, a, l, s2, rfl, ha, hl⟩
      have x1 : (l : Int) % 26 = ((l % 26 : Nat) : Int) := by omega
      have x2 : (l : Int) / 26 = ((l / 26 : Nat) : Int) := by omega
      have x3 := abc_at ((l % 26 : Nat) : Int) (by omega) (by omega)
      rw [Int.toNat_natCast] at x3
      have x5 : ixEv (.str abc) (.int ((l % 26 : Nat) : Int)) = some ⟨.str [97 + l % 26], .fz⟩ := by
        rw [c_ixs (show abc.length ≤ bigL by decide), x3]; rfl
      have x4 : Op.add.ev (.str [97 + l % 26]) (.str a) = some (.str ((97 + l % 26) :: a)) := c_adds (by show 1 + a.length ≤ 1000000; omega)
      simp only [List.length_cons, List.length_nil, Nat.reduceAdd, Nat.reduceLeDiff, if_true, List.map_cons, List.map_nil, Nat.reduceSub, List.replicate_succ, List.replicate_zero, List.cons_append, List.nil_append, List.all_cons, List.all_nil, Bool.and_true, Bool.true_and, Bool.and_self, decide_true, decide_false, Bool.false_or, Bool.or_false, List.contains_nil, if_false, Bool.false_eq_true, le_big, nal_fz, nal_fz', nal_ex', E.isHole, run_eq, reduceIte, cnd_bl, sl_0, sl_s, rd_val, rd_own, rd_ownd, pass_fz, pass_ex, pass_al, bind_ok, bind_bad, out_ok, out_bad, seq_next, seq_ret, seq_brk, seq_cnt, seq_bad, ofO_some, ofO_none, ev_var, ev_int, ev_str, ev_bl, ev_non, ev_glb, ev_op, ngI_int, ev_neg, nt_bl, ev_not, ev_and, ev_or, ev_one, ev_ife, oc_bl, ev_chain, ev_call, ev_bi, ev_isi, ev_mt, ev_ix, ev_sl, toI_int, optI_t, optI_f, ev_lst, ev_tup, ev_nil, ev_cons, ss_nil_, ss_cons_, s_set, s_own, s_par, s_ife, s_for, s_whl, s_drop, s_app, obE_s, loop_1, loop_m, s_ret, s_retN, s_nev, s_brk, s_cnt, s_pass, outO_some, outO_none, lk_nil, lk_cons, st1_0, st1_s, put_fz, put_ex, put_own, putV_nil, putV_cons, putA_nil, putA_cons, fin_next, fin_ret, fin_bad, nal_fz, nal_ex, nal_fz, nal_ex, add_ii, sub_ii, lt_ii, le_ii, gt_ii, ge_ii, is_n, isNot_n, eq_ss, ne_ss, eq_ii, ne_ii, eq_ns, in_ss, notIn_ss, kd_add_i, kd_add_s, kd_add_l, kd_mul_i, kd_sub, kd_fdiv, kd_mod, kd_pow, kd_lt, kd_le, kd_gt, kd_ge, kd_eq, kd_ne, kd_is, kd_isn, kd_in, kd_nin, ix_l, ix_t, ix_scr, map_some_, map_none_, bindO_some, bindO_none, it_any, it_A_t, it_A_s, it_A_l, it_L_fz, it_L_ex, it_L_al, it_r1, it_r2, it_r3, it_enum, it_zip, it_zip3, it_zipA, it_Z_s, it_Z_l, ev_lc, lc_fr_n, lc_fr_v, lc_free, lc_tgIx_1, lc_tgIx_m, obE_R, lc_optK_t, lc_optK_f, lc_noExc_ok, lc_noExc_bad, lc_noExc_exc, lcB_1, lcB_2, lcB_3, isO_own, isO_y, onO_eq, onO_s, bi_len_l, bi_len_scr, bi_len_t, bi_abs, bi_all, bi_any, bi_list, bi_tuple, ix_sl_l, ix_sl_scr, ix_d, ev_dlit, put_ownd, kd_mul_s, kd_mul_l, kd_mul_t, kd_inQ, kd_notInQ, kd_addS, kd_addL, isNon_n, isN_bl, isN_int, isN_str, isN_lst, isN_tup, ty_int_n, ty_int_b, ty_int_i, ty_int_s, ty_int_l, ty_int_t, ty_int_scr, ty_int_d, ty_str_n, ty_str_b, ty_str_i, ty_str_s, ty_str_l, ty_str_t, ty_str_scr, ty_str_d, ty_bool_n, ty_bool_b, ty_bool_i, ty_bool_s, ty_bool_l, ty_bool_t, ty_bool_scr, ty_bool_d, ty_list_n, ty_list_b, ty_list_i, ty_list_s, ty_list_l, ty_list_t, ty_list_scr, ty_list_d, ty_tuple_n, ty_tuple_b, ty_tuple_i, ty_tuple_s, ty_tuple_l, ty_tuple_t, ty_tuple_scr, ty_tuple_d, mtr_split, mtr_join, mtr_starts, mtr_lstrip, mtr_indexS, mtr_indexL, mtr_count, mtr_get1, mtr_get2, eq_nn_, ne_nn_, eq_nb_, ne_nb_, eq_ni_, ne_ni_, eq_bn_, ne_bn_, eq_bb_, ne_bb_, eq_bi_, ne_bi_, eq_bs_, ne_bs_, eq_in_, ne_in_, eq_ib_, ne_ib_, eq_is_, ne_is_, eq_sn_, ne_sn_, eq_sb_, ne_sb_, eq_si_, ne_si_, ne_ns_, c_mul, c_fdiv, c_mod, c_pow, c_adds, c_addl, c_ixs, lt600, lt60, lt1000, c_rng1, c_rng2, c_rng3, c_len, c_str, c_int, c_starts, c_indexS, c_sls, Nat.reduceLT, Int.reduceLT, Int.reduceLE, Int.reduceNeg, Int.reduceToNat, Int.reducePow, Int.reduceMul, Int.reduceAdd, Int.reduceSub, Bool.not_true, Bool.not_false, It.slots, E.slot, Nat.reduceBEq, Sc.d, Int.reduceEq, Nat.reduceEqDiff, x1, x2, x5, x4]
      refine ⟨rfl, _, _, _, rfl, by simp only [List.length_cons]; omega, ?_⟩
      rw [← hl]
      obtain ⟨p, hp⟩ : ∃ p, M - i = p + 1 := ⟨M - i - 1, by omega⟩
      rw [hp, show M - (i + 1) = p by omega]
      rfl
    · rintro en o'' ⟨rfl, a, l, s2, rfl, ha, hl⟩
      rw [Nat.sub_self] at hl
      have hl : a = F := hl
      simp only [List.length_cons, List.length_nil, Nat.reduceAdd, Nat.reduceLeDiff, if_true, List.map_cons, List.map_nil, Nat.reduceSub, List.replicate_succ, List.replicate_zero, List.cons_append, List.nil_append, List.all_cons, List.all_nil, Bool.and_true, Bool.true_and, Bool.and_self, decide_true, decide_false, Bool.false_or, Bool.or_false, List.contains_nil, if_false, Bool.false_eq_true, le_big, nal_fz, nal_fz', nal_ex', E.isHole, run_eq, reduceIte, cnd_bl, sl_0, sl_s, rd_val, rd_own, rd_ownd, pass_fz, pass_ex, pass_al, bind_ok, bind_bad, out_ok, out_bad, seq_next, seq_ret, seq_brk, seq_cnt, seq_bad, ofO_some, ofO_none, ev_var, ev_int, ev_str, ev_bl, ev_non, ev_glb, ev_op, ngI_int, ev_neg, nt_bl, ev_not, ev_and, ev_or, ev_one, ev_ife, oc_bl, ev_chain, ev_call, ev_bi, ev_isi, ev_mt, ev_ix, ev_sl, toI_int, optI_t, optI_f, ev_lst, ev_tup, ev_nil, ev_cons, ss_nil_, ss_cons_, s_set, s_own, s_par, s_ife, s_for, s_whl, s_drop, s_app, obE_s, loop_1, loop_m, s_ret, s_retN, s_nev, s_brk, s_cnt, s_pass, outO_some, outO_none, lk_nil, lk_cons, st1_0, st1_s, put_fz, put_ex, put_own, putV_nil, putV_cons, putA_nil, putA_cons, fin_next, fin_ret, fin_bad, nal_fz, nal_ex, nal_fz, nal_ex, add_ii, sub_ii, lt_ii, le_ii, gt_ii, ge_ii, is_n, isNot_n, eq_ss, ne_ss, eq_ii, ne_ii, eq_ns, in_ss, notIn_ss, kd_add_i, kd_add_s, kd_add_l, kd_mul_i, kd_sub, kd_fdiv, kd_mod, kd_pow, kd_lt, kd_le, kd_gt, kd_ge, kd_eq, kd_ne, kd_is, kd_isn, kd_in, kd_nin, ix_l, ix_t, ix_scr, map_some_, map_none_, bindO_some, bindO_none, it_any, it_A_t, it_A_s, it_A_l, it_L_fz, it_L_ex, it_L_al, it_r1, it_r2, it_r3, it_enum, it_zip, it_zip3, it_zipA, it_Z_s, it_Z_l, ev_lc, lc_fr_n, lc_fr_v, lc_free, lc_tgIx_1, lc_tgIx_m, obE_R, lc_optK_t, lc_optK_f, lc_noExc_ok, lc_noExc_bad, lc_noExc_exc, lcB_1, lcB_2, lcB_3, isO_own, isO_y, onO_eq, onO_s, bi_len_l, bi_len_scr, bi_len_t, bi_abs, bi_all, bi_any, bi_list, bi_tuple, ix_sl_l, ix_sl_scr, ix_d, ev_dlit, put_ownd, kd_mul_s, kd_mul_l, kd_mul_t, kd_inQ, kd_notInQ, kd_addS, kd_addL, isNon_n, isN_bl, isN_int, isN_str, isN_lst, isN_tup, ty_int_n, ty_int_b, ty_int_i, ty_int_s, ty_int_l, ty_int_t, ty_int_scr, ty_int_d, ty_str_n, ty_str_b, ty_str_i, ty_str_s, ty_str_l, ty_str_t, ty_str_scr, ty_str_d, ty_bool_n, ty_bool_b, ty_bool_i, ty_bool_s, ty_bool_l, ty_bool_t, ty_bool_scr, ty_bool_d, ty_list_n, ty_list_b, ty_list_i, ty_list_s, ty_list_l, ty_list_t, ty_list_scr, ty_list_d, ty_tuple_n, ty_tuple_b, ty_tuple_i, ty_tuple_s, ty_tuple_l, ty_tuple_t, ty_tuple_scr, ty_tuple_d, mtr_split, mtr_join, mtr_starts, mtr_lstrip, mtr_indexS, mtr_indexL, mtr_count, mtr_get1, mtr_get2, eq_nn_, ne_nn_, eq_nb_, ne_nb_, eq_ni_, ne_ni_, eq_bn_, ne_bn_, eq_bb_, ne_bb_, eq_bi_, ne_bi_, eq_bs_, ne_bs_, eq_in_, ne_in_, eq_ib_, ne_ib_, eq_is_, ne_is_, eq_sn_, ne_sn_, eq_sb_, ne_sb_, eq_si_, ne_si_, ne_ns_, c_mul, c_fdiv, c_mod, c_pow, c_adds, c_addl, c_ixs, lt600, lt60, lt1000, c_rng1, c_rng2, c_rng3, c_len, c_str, c_int, c_starts, c_indexS, c_sls, Nat.reduceLT, Int.reduceLT, Int.reduceLE, Int.reduceNeg, Int.reduceToNat, Int.reducePow, Int.reduceMul, Int.reduceAdd, Int.reduceSub, Bool.not_true, Bool.not_false, It.slots, E.slot, Nat.reduceBEq, Sc.d, Int.reduceEq, Nat.reduceEqDiff, hl]
  rcases hc with ⟨rfl, hl⟩ | ⟨rfl, hl⟩ | ⟨rfl, hl⟩
  · have hs := stp 1 26 26 l rfl (by omega) (by omega) (by decide) hw hq
    refine ⟨decide ((26 : Int) ≤ l), .fz, by simp only [List.length_cons, List.length_nil, Nat.reduceAdd, Nat.reduceLeDiff, if_true, List.map_cons, List.map_nil, Nat.reduceSub, List.replicate_succ, List.replicate_zero, List.cons_append, List.nil_append, List.all_cons, List.all_nil, Bool.and_true, Bool.true_and, Bool.and_self, decide_true, decide_false, Bool.false_or, Bool.or_false, List.contains_nil, if_false, Bool.false_eq_true, le_big, nal_fz, nal_fz', nal_ex', E.isHole, run_eq, reduceIte, cnd_bl, sl_0, sl_s, rd_val, rd_own, rd_ownd, pass_fz, pass_ex, pass_al, bind_ok, bind_bad, out_ok, out_bad, seq_next, seq_ret, seq_brk, seq_cnt, seq_bad, ofO_some, ofO_none, ev_var, ev_int, ev_str, ev_bl, ev_non, ev_glb, ev_op, ngI_int, ev_neg, nt_bl, ev_not, ev_and, ev_or, ev_one, ev_ife, oc_bl, ev_chain, ev_call, ev_bi, ev_isi, ev_mt, ev_ix, ev_sl, toI_int, optI_t, optI_f, ev_lst, ev_tup, ev_nil, ev_cons, ss_nil_, ss_cons_, s_set, s_own, s_par, s_ife, s_for, s_whl, s_drop, s_app, obE_s, loop_1, loop_m, s_ret, s_retN, s_nev, s_brk, s_cnt, s_pass, outO_some, outO_none, lk_nil, lk_cons, st1_0, st1_s, put_fz, put_ex, put_own, putV_nil, putV_cons, putA_nil, putA_cons, fin_next, fin_ret, fin_bad, nal_fz, nal_ex, nal_fz, nal_ex, add_ii, sub_ii, lt_ii, le_ii, gt_ii, ge_ii, is_n, isNot_n, eq_ss, ne_ss, eq_ii, ne_ii, eq_ns, in_ss, notIn_ss, kd_add_i, kd_add_s, kd_add_l, kd_mul_i, kd_sub, kd_fdiv, kd_mod, kd_pow, kd_lt, kd_le, kd_gt, kd_ge, kd_eq, kd_ne, kd_is, kd_isn, kd_in, kd_nin, ix_l, ix_t, ix_scr, map_some_, map_none_, bindO_some, bindO_none, it_any, it_A_t, it_A_s, it_A_l, it_L_fz, it_L_ex, it_L_al, it_r1, it_r2, it_r3, it_enum, it_zip, it_zip3, it_zipA, it_Z_s, it_Z_l, ev_lc, lc_fr_n, lc_fr_v, lc_free, lc_tgIx_1, lc_tgIx_m, obE_R, lc_optK_t, lc_optK_f, lc_noExc_ok, lc_noExc_bad, lc_noExc_exc, lcB_1, lcB_2, lcB_3, isO_own, isO_y, onO_eq, onO_s, bi_len_l, bi_len_scr, bi_len_t, bi_abs, bi_all, bi_any, bi_list, bi_tuple, ix_sl_l, ix_sl_scr, ix_d, ev_dlit, put_ownd, kd_mul_s, kd_mul_l, kd_mul_t, kd_inQ, kd_notInQ, kd_addS, kd_addL, isNon_n, isN_bl, isN_int, isN_str, isN_lst, isN_tup, ty_int_n, ty_int_b, ty_int_i, ty_int_s, ty_int_l, ty_int_t, ty_int_scr, ty_int_d, ty_str_n, ty_str_b, ty_str_i, ty_str_s, ty_str_l, ty_str_t, ty_str_scr, ty_str_d, ty_bool_n, ty_bool_b, ty_bool_i, ty_bool_s, ty_bool_l, ty_bool_t, ty_bool_scr, ty_bool_d, ty_list_n, ty_list_b, ty_list_i, ty_list_s, ty_list_l, ty_list_t, ty_list_scr, ty_list_d, ty_tuple_n, ty_tuple_b, ty_tuple_i, ty_tuple_s, ty_tuple_l, ty_tuple_t, ty_tuple_scr, ty_tuple_d, mtr_split, mtr_join, mtr_starts, mtr_lstrip, mtr_indexS, mtr_indexL, mtr_count, mtr_get1, mtr_get2, eq_nn_, ne_nn_, eq_nb_, ne_nb_, eq_ni_, ne_ni_, eq_bn_, ne_bn_, eq_bb_, ne_bb_, eq_bi_, ne_bi_, eq_bs_, ne_bs_, eq_in_, ne_in_, eq_ib_, ne_ib_, eq_is_, ne_is_, eq_sn_, ne_sn_, eq_sb_, ne_sb_, eq_si_, ne_si_, ne_ns_, c_mul, c_fdiv, c_mod, c_pow, c_adds, c_addl, c_ixs, lt600, lt60, lt1000, c_rng1, c_rng2, c_rng3, c_len, c_str, c_int, c_starts, c_indexS, c_sls, Nat.reduceLT, Int.reduceLT, Int.reduceLE, Int.reduceNeg, Int.reduceToNat, Int.reducePow, Int.reduceMul, Int.reduceAdd, Int.reduceSub, Bool.not_true, Bool.not_false, It.slots, E.slot, Nat.reduceBEq, Sc.d, Int.reduceEq, Nat.reduceEqDiff, f9, Int.natCast_one, hp0, hm0], ?_⟩
    by_cases hc : 26 ≤ l
    · rw [if_pos (decide_eq_true (by omega))]
      have x : (l : Int) - 26 = ((l - 26 : Nat) : Int) := by omega
      simp only [List.length_cons, List.length_nil, Nat.reduceAdd, Nat.reduceLeDiff, if_true, List.map_cons, List.map_nil, Nat.reduceSub, List.replicate_succ, List.replicate_zero, List.cons_append, List.nil_append, List.all_cons, List.all_nil, Bool.and_true, Bool.true_and, Bool.and_self, decide_true, decide_false, Bool.false_or, Bool.or_false, List.contains_nil, if_false, Bool.false_eq_true, le_big, nal_fz, nal_fz', nal_ex', E.isHole, run_eq, reduceIte, cnd_bl, sl_0, sl_s, rd_val, rd_own, rd_ownd, pass_fz, pass_ex, pass_al, bind_ok, bind_bad, out_ok, out_bad, seq_next, seq_ret, seq_brk, seq_cnt, seq_bad, ofO_some, ofO_none, ev_var, ev_int, ev_str, ev_bl, ev_non, ev_glb, ev_op, ngI_int, ev_neg, nt_bl, ev_not, ev_and, ev_or, ev_one, ev_ife, oc_bl, ev_chain, ev_call, ev_bi, ev_isi, ev_mt, ev_ix, ev_sl, toI_int, optI_t, optI_f, ev_lst, ev_tup, ev_nil, ev_cons, ss_nil_, ss_cons_, s_set, s_own, s_par, s_ife, s_for, s_whl, s_drop, s_app, obE_s, loop_1, loop_m, s_ret, s_retN, s_nev, s_brk, s_cnt, s_pass, outO_some, outO_none, lk_nil, lk_cons, st1_0, st1_s, put_fz, put_ex, put_own, putV_nil, putV_cons, putA_nil, putA_cons, fin_next, fin_ret, fin_bad, nal_fz, nal_ex, nal_fz, nal_ex, add_ii, sub_ii, lt_ii, le_ii, gt_ii, ge_ii, is_n, isNot_n, eq_ss, ne_ss, eq_ii, ne_ii, eq_ns, in_ss, notIn_ss, kd_add_i, kd_add_s, kd_add_l, kd_mul_i, kd_sub, kd_fdiv, kd_mod, kd_pow, kd_lt, kd_le, kd_gt, kd_ge, kd_eq, kd_ne, kd_is, kd_isn, kd_in, kd_nin, ix_l, ix_t, ix_scr, map_some_, map_none_, bindO_some, bindO_none, it_any, it_A_t, it_A_s, it_A_l, it_L_fz, it_L_ex, it_L_al, it_r1, it_r2, it_r3, it_enum, it_zip, it_zip3, it_zipA, it_Z_s, it_Z_l, ev_lc, lc_fr_n, lc_fr_v, lc_free, lc_tgIx_1, lc_tgIx_m, obE_R, lc_optK_t, lc_optK_f, lc_noExc_ok, lc_noExc_bad, lc_noExc_exc, lcB_1, lcB_2, lcB_3, isO_own, isO_y, onO_eq, onO_s, bi_len_l, bi_len_scr, bi_len_t, bi_abs, bi_all, bi_any, bi_list, bi_tuple, ix_sl_l, ix_sl_scr, ix_d, ev_dlit, put_ownd, kd_mul_s, kd_mul_l, kd_mul_t, kd_inQ, kd_notInQ, kd_addS, kd_addL, isNon_n, isN_bl, isN_int, isN_str, isN_lst, isN_tup, ty_int_n, ty_int_b, ty_int_i, ty_int_s, ty_int_l, ty_int_t, ty_int_scr, ty_int_d, ty_str_n, ty_str_b, ty_str_i, ty_str_s, ty_str_l, ty_str_t, ty_str_scr, ty_str_d, ty_bool_n, ty_bool_b, ty_bool_i, ty_bool_s, ty_bool_l, ty_bool_t, ty_bool_scr, ty_bool_d, ty_list_n, ty_list_b, ty_list_i, ty_list_s, ty_list_l, ty_list_t, ty_list_scr, ty_list_d, ty_tuple_n, ty_tuple_b, ty_tuple_i, ty_tuple_s, ty_tuple_l, ty_tuple_t, ty_tuple_scr, ty_tuple_d, mtr_split, mtr_join, mtr_starts, mtr_lstrip, mtr_indexS, mtr_indexL, mtr_count, mtr_get1, mtr_get2, eq_nn_, ne_nn_, eq_nb_, ne_nb_, eq_ni_, ne_ni_, eq_bn_, ne_bn_, eq_bb_, ne_bb_, eq_bi_, ne_bi_, eq_bs_, ne_bs_, eq_in_, ne_in_, eq_ib_, ne_ib_, eq_is_, ne_is_, eq_sn_, ne_sn_, eq_sb_, ne_sb_, eq_si_, ne_si_, ne_ns_, c_mul, c_fdiv, c_mod, c_pow, c_adds, c_addl, c_ixs, lt600, lt60, lt1000, c_rng1, c_rng2, c_rng3, c_len, c_str, c_int, c_starts, c_indexS, c_sls, Nat.reduceLT, Int.reduceLT, Int.reduceLE, Int.reduceNeg, Int.reduceToNat, Int.reducePow, Int.reduceMul, Int.reduceAdd, Int.reduceSub, Bool.not_true, Bool.not_false, It.slots, E.slot, Nat.reduceBEq, Sc.d, Int.reduceEq, Nat.reduceEqDiff, f9, Int.natCast_one, hp0, hm0, x]
      exact ⟨q - 1, by omega, rfl, 2, l - 26, _, _, _, _, _, _, _, rfl, by omega, hs.2 hc, by omega⟩
    · rw [if_neg (by simp; omega)]
      exact fini _ l 1 (hs.1 (by omega))
  · have hs := stp 2 676 676 l rfl (by omega) (by omega) (by decide) hw hq
    have n2 : ((2 : Nat) : Int) = 2 := rfl
    refine ⟨decide ((676 : Int) ≤ l), .fz, by simp only [List.length_cons, List.length_nil, Nat.reduceAdd, Nat.reduceLeDiff, if_true, List.map_cons, List.map_nil, Nat.reduceSub, List.replicate_succ, List.replicate_zero, List.cons_append, List.nil_append, List.all_cons, List.all_nil, Bool.and_true, Bool.true_and, Bool.and_self, decide_true, decide_false, Bool.false_or, Bool.or_false, List.contains_nil, if_false, Bool.false_eq_true, le_big, nal_fz, nal_fz', nal_ex', E.isHole, run_eq, reduceIte, cnd_bl, sl_0, sl_s, rd_val, rd_own, rd_ownd, pass_fz, pass_ex, pass_al, bind_ok, bind_bad, out_ok, out_bad, seq_next, seq_ret, seq_brk, seq_cnt, seq_bad, ofO_some, ofO_none, ev_var, ev_int, ev_str, ev_bl, ev_non, ev_glb, ev_op, ngI_int, ev_neg, nt_bl, ev_not, ev_and, ev_or, ev_one, ev_ife, oc_bl, ev_chain, ev_call, ev_bi, ev_isi, ev_mt, ev_ix, ev_sl, toI_int, optI_t, optI_f, ev_lst, ev_tup, ev_nil, ev_cons, ss_nil_, ss_cons_, s_set, s_own, s_par, s_ife, s_for, s_whl, s_drop, s_app, obE_s, loop_1, loop_m, s_ret, s_retN, s_nev, s_brk, s_cnt, s_pass, outO_some, outO_none, lk_nil, lk_cons, st1_0, st1_s, put_fz, put_ex, put_own, putV_nil, putV_cons, putA_nil, putA_cons, fin_next, fin_ret, fin_bad, nal_fz, nal_ex, nal_fz, nal_ex, add_ii, sub_ii, lt_ii, le_ii, gt_ii, ge_ii, is_n, isNot_n, eq_ss, ne_ss, eq_ii, ne_ii, eq_ns, in_ss, notIn_ss, kd_add_i, kd_add_s, kd_add_l, kd_mul_i, kd_sub, kd_fdiv, kd_mod, kd_pow, kd_lt, kd_le, kd_gt, kd_ge, kd_eq, kd_ne, kd_is, kd_isn, kd_in, kd_nin, ix_l, ix_t, ix_scr, map_some_, map_none_, bindO_some, bindO_none, it_any, it_A_t, it_A_s, it_A_l, it_L_fz, it_L_ex, it_L_al, it_r1, it_r2, it_r3, it_enum, it_zip, it_zip3, it_zipA, it_Z_s, it_Z_l, ev_lc, lc_fr_n, lc_fr_v, lc_free, lc_tgIx_1, lc_tgIx_m, obE_R, lc_optK_t, lc_optK_f, lc_noExc_ok, lc_noExc_bad, lc_noExc_exc, lcB_1, lcB_2, lcB_3, isO_own, isO_y, onO_eq, onO_s, bi_len_l, bi_len_scr, bi_len_t, bi_abs, bi_all, bi_any, bi_list, bi_tuple, ix_sl_l, ix_sl_scr, ix_d, ev_dlit, put_ownd, kd_mul_s, kd_mul_l, kd_mul_t, kd_inQ, kd_notInQ, kd_addS, kd_addL, isNon_n, isN_bl, isN_int, isN_str, isN_lst, isN_tup, ty_int_n, ty_int_b, ty_int_i, ty_int_s, ty_int_l, ty_int_t, ty_int_scr, ty_int_d, ty_str_n, ty_str_b, ty_str_i, ty_str_s, ty_str_l, ty_str_t, ty_str_scr, ty_str_d, ty_bool_n, ty_bool_b, ty_bool_i, ty_bool_s, ty_bool_l, ty_bool_t, ty_bool_scr, ty_bool_d, ty_list_n, ty_list_b, ty_list_i, ty_list_s, ty_list_l, ty_list_t, ty_list_scr, ty_list_d, ty_tuple_n, ty_tuple_b, ty_tuple_i, ty_tuple_s, ty_tuple_l, ty_tuple_t, ty_tuple_scr, ty_tuple_d, mtr_split, mtr_join, mtr_starts, mtr_lstrip, mtr_indexS, mtr_indexL, mtr_count, mtr_get1, mtr_get2, eq_nn_, ne_nn_, eq_nb_, ne_nb_, eq_ni_, ne_ni_, eq_bn_, ne_bn_, eq_bb_, ne_bb_, eq_bi_, ne_bi_, eq_bs_, ne_bs_, eq_in_, ne_in_, eq_ib_, ne_ib_, eq_is_, ne_is_, eq_sn_, ne_sn_, eq_sb_, ne_sb_, eq_si_, ne_si_, ne_ns_, c_mul, c_fdiv, c_mod, c_pow, c_adds, c_addl, c_ixs, lt600, lt60, lt1000, c_rng1, c_rng2, c_rng3, c_len, c_str, c_int, c_starts, c_indexS, c_sls, Nat.reduceLT, Int.reduceLT, Int.reduceLE, Int.reduceNeg, Int.reduceToNat, Int.reducePow, Int.reduceMul, Int.reduceAdd, Int.reduceSub, Bool.not_true, Bool.not_false, It.slots, E.slot, Nat.reduceBEq, Sc.d, Int.reduceEq, Nat.reduceEqDiff, f9, n2, hp1, hm1], ?_⟩
    by_cases hc : 676 ≤ l
    · rw [if_pos (decide_eq_true (by omega))]
      have x : (l : Int) - 676 = ((l - 676 : Nat) : Int) := by omega
      simp only [List.length_cons, List.length_nil, Nat.reduceAdd, Nat.reduceLeDiff, if_true, List.map_cons, List.map_nil, Nat.reduceSub, List.replicate_succ, List.replicate_zero, List.cons_append, List.nil_append, List.all_cons, List.all_nil, Bool.and_true, Bool.true_and, Bool.and_self, decide_true, decide_false, Bool.false_or, Bool.or_false, List.contains_nil, if_false, Bool.false_eq_true, le_big, nal_fz, nal_fz', nal_ex', E.isHole, run_eq, reduceIte, cnd_bl, sl_0, sl_s, rd_val, rd_own, rd_ownd, pass_fz, pass_ex, pass_al, bind_ok, bind_bad, out_ok, out_bad, seq_next, seq_ret, seq_brk, seq_cnt, seq_bad, ofO_some, ofO_none, ev_var, ev_int, ev_str, ev_bl, ev_non, ev_glb, ev_op, ngI_int, ev_neg, nt_bl, ev_not, ev_and, ev_or, ev_one, ev_ife, oc_bl, ev_chain, ev_call, ev_bi, ev_isi, ev_mt, ev_ix, ev_sl, toI_int, optI_t, optI_f, ev_lst, ev_tup, ev_nil, ev_cons, ss_nil_, ss_cons_, s_set, s_own, s_par, s_ife, s_for, s_whl, s_drop, s_app, obE_s, loop_1, loop_m, s_ret, s_retN, s_nev, s_brk, s_cnt, s_pass, outO_some, outO_none, lk_nil, lk_cons, st1_0, st1_s, put_fz, put_ex, put_own, putV_nil, putV_cons, putA_nil, putA_cons, fin_next, fin_ret, fin_bad, nal_fz, nal_ex, nal_fz, nal_ex, add_ii, sub_ii, lt_ii, le_ii, gt_ii, ge_ii, is_n, isNot_n, eq_ss, ne_ss, eq_ii, ne_ii, eq_ns, in_ss, notIn_ss, kd_add_i, kd_add_s, kd_add_l, kd_mul_i, kd_sub, kd_fdiv, kd_mod, kd_pow, kd_lt, kd_le, kd_gt, kd_ge, kd_eq, kd_ne, kd_is, kd_isn, kd_in, kd_nin, ix_l, ix_t, ix_scr, map_some_, map_none_, bindO_some, bindO_none, it_any, it_A_t, it_A_s, it_A_l, it_L_fz, it_L_ex, it_L_al, it_r1, it_r2, it_r3, it_enum, it_zip, it_zip3, it_zipA, it_Z_s, it_Z_l, ev_lc, lc_fr_n, lc_fr_v, lc_free, lc_tgIx_1, lc_tgIx_m, obE_R, lc_optK_t, lc_optK_f, lc_noExc_ok, lc_noExc_bad, lc_noExc_exc, lcB_1, lcB_2, lcB_3, isO_own, isO_y, onO_eq, onO_s, bi_len_l, bi_len_scr, bi_len_t, bi_abs, bi_all, bi_any, bi_list, bi_tuple, ix_sl_l, ix_sl_scr, ix_d, ev_dlit, put_ownd, kd_mul_s, kd_mul_l, kd_mul_t, kd_inQ, kd_notInQ, kd_addS, kd_addL, isNon_n, isN_bl, isN_int, isN_str, isN_lst, isN_tup, ty_int_n, ty_int_b, ty_int_i, ty_int_s, ty_int_l, ty_int_t, ty_int_scr, ty_int_d, ty_str_n, ty_str_b, ty_str_i, ty_str_s, ty_str_l, ty_str_t, ty_str_scr, ty_str_d, ty_bool_n, ty_bool_b, ty_bool_i, ty_bool_s, ty_bool_l, ty_bool_t, ty_bool_scr, ty_bool_d, ty_list_n, ty_list_b, ty_list_i, ty_list_s, ty_list_l, ty_list_t, ty_list_scr, ty_list_d, ty_tuple_n, ty_tuple_b, ty_tuple_i, ty_tuple_s, ty_tuple_l, ty_tuple_t, ty_tuple_scr, ty_tuple_d, mtr_split, mtr_join, mtr_starts, mtr_lstrip, mtr_indexS, mtr_indexL, mtr_count, mtr_get1, mtr_get2, eq_nn_, ne_nn_, eq_nb_, ne_nb_, eq_ni_, ne_ni_, eq_bn_, ne_bn_, eq_bb_, ne_bb_, eq_bi_, ne_bi_, eq_bs_, ne_bs_, eq_in_, ne_in_, eq_ib_, ne_ib_, eq_is_, ne_is_, eq_sn_, ne_sn_, eq_sb_, ne_sb_, eq_si_, ne_si_, ne_ns_, c_mul, c_fdiv, c_mod, c_pow, c_adds, c_addl, c_ixs, lt600, lt60, lt1000, c_rng1, c_rng2, c_rng3, c_len, c_str, c_int, c_starts, c_indexS, c_sls, Nat.reduceLT, Int.reduceLT, Int.reduceLE, Int.reduceNeg, Int.reduceToNat, Int.reducePow, Int.reduceMul, Int.reduceAdd, Int.reduceSub, Bool.not_true, Bool.not_false, It.slots, E.slot, Nat.reduceBEq, Sc.d, Int.reduceEq, Nat.reduceEqDiff, f9, n2, hp1, hm1, x]
      exact ⟨q - 1, by omega, rfl, 3, l - 676, _, _, _, _, _, _, _, rfl, by omega, hs.2 hc, by omega⟩
    · rw [if_neg (by simp; omega)]
      exact fini _ l 2 (hs.1 (by omega))
  · have hs := stp 3 17576 17576 l rfl (by omega) (by omega) (by decide) hw hq
    have n2 : ((3 : Nat) : Int) = 3 := rfl
    refine ⟨decide ((17576 : Int) ≤ l), .fz, by simp only [List.length_cons, List.length_nil, Nat.reduceAdd, Nat.reduceLeDiff, if_true, List.map_cons, List.map_nil, Nat.reduceSub, List.replicate_succ, List.replicate_zero, List.cons_append, List.nil_append, List.all_cons, List.all_nil, Bool.and_true, Bool.true_and, Bool.and_self, decide_true, decide_false, Bool.false_or, Bool.or_false, List.contains_nil, if_false, Bool.false_eq_true, le_big, nal_fz, nal_fz', nal_ex', E.isHole, run_eq, reduceIte, cnd_bl, sl_0, sl_s, rd_val, rd_own, rd_ownd, pass_fz, pass_ex, pass_al, bind_ok, bind_bad, out_ok, out_bad, seq_next, seq_ret, seq_brk, seq_cnt, seq_bad, ofO_some, ofO_none, ev_var, ev_int, ev_str, ev_bl, ev_non, ev_glb, ev_op, ngI_int, ev_neg, nt_bl, ev_not, ev_and, ev_or, ev_one, ev_ife, oc_bl, ev_chain, ev_call, ev_bi, ev_isi, ev_mt, ev_ix, ev_sl, toI_int, optI_t, optI_f, ev_lst, ev_tup, ev_nil, ev_cons, ss_nil_, ss_cons_, s_set, s_own, s_par, s_ife, s_for, s_whl, s_drop, s_app, obE_s, loop_1, loop_m, s_ret, s_retN, s_nev, s_brk, s_cnt, s_pass, outO_some, outO_none, lk_nil, lk_cons, st1_0, st1_s, put_fz, put_ex, put_own, putV_nil, putV_cons, putA_nil, putA_cons, fin_next, fin_ret, fin_bad, nal_fz, nal_ex, nal_fz, nal_ex, add_ii, sub_ii, lt_ii, le_ii, gt_ii, ge_ii, is_n, isNot_n, eq_ss, ne_ss, eq_ii, ne_ii, eq_ns, in_ss, notIn_ss, kd_add_i, kd_add_s, kd_add_l, kd_mul_i, kd_sub, kd_fdiv, kd_mod, kd_pow, kd_lt, kd_le, kd_gt, kd_ge, kd_eq, kd_ne, kd_is, kd_isn, kd_in, kd_nin, ix_l, ix_t, ix_scr, map_some_, map_none_, bindO_some, bindO_none, it_any, it_A_t, it_A_s, it_A_l, it_L_fz, it_L_ex, it_L_al, it_r1, it_r2, it_r3, it_enum, it_zip, it_zip3, it_zipA, it_Z_s, it_Z_l, ev_lc, lc_fr_n, lc_fr_v, lc_free, lc_tgIx_1, lc_tgIx_m, obE_R, lc_optK_t, lc_optK_f, lc_noExc_ok, lc_noExc_bad, lc_noExc_exc, lcB_1, lcB_2, lcB_3, isO_own, isO_y, onO_eq, onO_s, bi_len_l, bi_len_scr, bi_len_t, bi_abs, bi_all, bi_any, bi_list, bi_tuple, ix_sl_l, ix_sl_scr, ix_d, ev_dlit, put_ownd, kd_mul_s, kd_mul_l, kd_mul_t, kd_inQ, kd_notInQ, kd_addS, kd_addL, isNon_n, isN_bl, isN_int, isN_str, isN_lst, isN_tup, ty_int_n, ty_int_b, ty_int_i, ty_int_s, ty_int_l, ty_int_t, ty_int_scr, ty_int_d, ty_str_n, ty_str_b, ty_str_i, ty_str_s, ty_str_l, ty_str_t, ty_str_scr, ty_str_d, ty_bool_n, ty_bool_b, ty_bool_i, ty_bool_s, ty_bool_l, ty_bool_t, ty_bool_scr, ty_bool_d, ty_list_n, ty_list_b, ty_list_i, ty_list_s, ty_list_l, ty_list_t, ty_list_scr, ty_list_d, ty_tuple_n, ty_tuple_b, ty_tuple_i, ty_tuple_s, ty_tuple_l, ty_tuple_t, ty_tuple_scr, ty_tuple_d, mtr_split, mtr_join, mtr_starts, mtr_lstrip, mtr_indexS, mtr_indexL, mtr_count, mtr_get1, mtr_get2, eq_nn_, ne_nn_, eq_nb_, ne_nb_, eq_ni_, ne_ni_, eq_bn_, ne_bn_, eq_bb_, ne_bb_, eq_bi_, ne_bi_, eq_bs_, ne_bs_, eq_in_, ne_in_, eq_ib_, ne_ib_, eq_is_, ne_is_, eq_sn_, ne_sn_, eq_sb_, ne_sb_, eq_si_, ne_si_, ne_ns_, c_mul, c_fdiv, c_mod, c_pow, c_adds, c_addl, c_ixs, lt600, lt60, lt1000, c_rng1, c_rng2, c_rng3, c_len, c_str, c_int, c_starts, c_indexS, c_sls, Nat.reduceLT, Int.reduceLT, Int.reduceLE, Int.reduceNeg, Int.reduceToNat, Int.reducePow, Int.reduceMul, Int.reduceAdd, Int.reduceSub, Bool.not_true, Bool.not_false, It.slots, E.slot, Nat.reduceBEq, Sc.d, Int.reduceEq, Nat.reduceEqDiff, f9, n2, hp2, hm2], ?_⟩
    rw [if_neg (by simp; omega)]
    exact fini _ l 3 (hs.1 (by omega))
theorem w10R (n : Nat) (h1 : 1 ≤ n) (h2 : n ≤ 3099) (o : Objs) : runDef G b__law_numeral 12 [⟨.int n, .fz⟩, ⟨.str kR, .fz⟩] o = .ok ⟨.str (lawNumF n kR), .fz⟩ o := by
  have hl : lawNumF n kR = lrow.flatMap (lawRomP n) := by
    unfold lawNumF; rw [if_neg (by decide), if_neg (by decide)]; rfl
  have hlen : (lawNumF n kR).length ≤ 20 := by
    rw [(num_ok n kR h1 h2 (by decide)).1]; exact (num_ok n kR h1 h2 (by decide)).2.2.2
  rw [hl] at hlen ⊢
  obtain ⟨F, hF⟩ : ∃ F, lrow.flatMap (lawRomP n) = F := ⟨_, rfl⟩
  rw [hF] at hlen ⊢
  unfold b__law_numeral
  simp only [List.length_cons, List.length_nil, Nat.reduceAdd, Nat.reduceLeDiff, if_true, List.map_cons, List.map_nil, Nat.reduceSub, List.replicate_succ, List.replicate_zero, List.cons_append, List.nil_append, List.all_cons, List.all_nil, Bool.and_true, Bool.true_and, Bool.and_self, decide_true, decide_false, Bool.false_or, Bool.or_false, List.contains_nil, if_false, Bool.false_eq_true, le_big, nal_fz, nal_fz', nal_ex', E.isHole, run_eq, reduceIte, cnd_bl, sl_0, sl_s, rd_val, rd_own, rd_ownd, pass_fz, pass_ex, pass_al, bind_ok, bind_bad, out_ok, out_bad, seq_next, seq_ret, seq_brk, seq_cnt, seq_bad, ofO_some, ofO_none, ev_var, ev_int, ev_str, ev_bl, ev_non, ev_glb, ev_op, ngI_int, ev_neg, nt_bl, ev_not, ev_and, ev_or, ev_one, ev_ife, oc_bl, ev_chain, ev_call, ev_bi, ev_isi, ev_mt, ev_ix, ev_sl, toI_int, optI_t, optI_f, ev_lst, ev_tup, ev_nil, ev_cons, ss_nil_, ss_cons_, s_set, s_own, s_par, s_ife, s_for, s_whl, s_drop, s_app, obE_s, loop_1, loop_m, s_ret, s_retN, s_nev, s_brk, s_cnt, s_pass, outO_some, outO_none, lk_nil, lk_cons, st1_0, st1_s, put_fz, put_ex, put_own, putV_nil, putV_cons, putA_nil, putA_cons, fin_next, fin_ret, fin_bad, nal_fz, nal_ex, nal_fz, nal_ex, add_ii, sub_ii, lt_ii, le_ii, gt_ii, ge_ii, is_n, isNot_n, eq_ss, ne_ss, eq_ii, ne_ii, eq_ns, in_ss, notIn_ss, kd_add_i, kd_add_s, kd_add_l, kd_mul_i, kd_sub, kd_fdiv, kd_mod, kd_pow, kd_lt, kd_le, kd_gt, kd_ge, kd_eq, kd_ne, kd_is, kd_isn, kd_in, kd_nin, ix_l, ix_t, ix_scr, map_some_, map_none_, bindO_some, bindO_none, it_any, it_A_t, it_A_s, it_A_l, it_L_fz, it_L_ex, it_L_al, it_r1, it_r2, it_r3, it_enum, it_zip, it_zip3, it_zipA, it_Z_s, it_Z_l, ev_lc, lc_fr_n, lc_fr_v, lc_free, lc_tgIx_1, lc_tgIx_m, obE_R, lc_optK_t, lc_optK_f, lc_noExc_ok, lc_noExc_bad, lc_noExc_exc, lcB_1, lcB_2, lcB_3, isO_own, isO_y, onO_eq, onO_s, bi_len_l, bi_len_scr, bi_len_t, bi_abs, bi_all, bi_any, bi_list, bi_tuple, ix_sl_l, ix_sl_scr, ix_d, ev_dlit, put_ownd, kd_mul_s, kd_mul_l, kd_mul_t, kd_inQ, kd_notInQ, kd_addS, kd_addL, isNon_n, isN_bl, isN_int, isN_str, isN_lst, isN_tup, ty_int_n, ty_int_b, ty_int_i, ty_int_s, ty_int_l, ty_int_t, ty_int_scr, ty_int_d, ty_str_n, ty_str_b, ty_str_i, ty_str_s, ty_str_l, ty_str_t, ty_str_scr, ty_str_d, ty_bool_n, ty_bool_b, ty_bool_i, ty_bool_s, ty_bool_l, ty_bool_t, ty_bool_scr, ty_bool_d, ty_list_n, ty_list_b, ty_list_i, ty_list_s, ty_list_l, ty_list_t, ty_list_scr, ty_list_d, ty_tuple_n, ty_tuple_b, ty_tuple_i, ty_tuple_s, ty_tuple_l, ty_tuple_t, ty_tuple_scr, ty_tuple_d, mtr_split, mtr_join, mtr_starts, mtr_lstrip, mtr_indexS, mtr_indexL, mtr_count, mtr_get1, mtr_get2, eq_nn_, ne_nn_, eq_nb_, ne_nb_, eq_ni_, ne_ni_, eq_bn_, ne_bn_, eq_bb_, ne_bb_, eq_bi_, ne_bi_, eq_bs_, ne_bs_, eq_in_, ne_in_, eq_ib_, ne_ib_, eq_is_, ne_is_, eq_sn_, ne_sn_, eq_sb_, ne_sb_, eq_si_, ne_si_, ne_ns_, c_mul, c_fdiv, c_mod, c_pow, c_adds, c_addl, c_ixs, lt600, lt60, lt1000, c_rng1, c_rng2, c_rng3, c_len, c_str, c_int, c_starts, c_indexS, c_sls, Nat.reduceLT, Int.reduceLT, Int.reduceLE, Int.reduceNeg, Int.reduceToNat, Int.reducePow, Int.reduceMul, Int.reduceAdd, Int.reduceSub, Bool.not_true, Bool.not_false, It.slots, E.slot, Nat.reduceBEq, Sc.d, Int.reduceEq, Nat.reduceEqDiff, kk_RF, kk_RL]
  have hf : [D.str [], D.str [49], D.str [49, 49], D.str [49, 49, 49], D.str [49, 53], D.str [53], D.str [53, 49], D.str [53, 49, 49], D.str [53, 49, 49, 49], D.str [49, 116]] = lfig.map D.str := rfl
  rw [hf]
  refine for_walk lD (fun rem en o' => o' = o ∧ (rem.all fun p => decide (0 < p.1 ∧ p.1 ≤ 1000)) = true ∧ ∃ (a : Txt) (s2 s5 s6 s7 s8 s9 : Slot), en = [.val ⟨.int n, .fz⟩, .val ⟨.str kR, .fz⟩, s2, .val ⟨.str a, .fz⟩, .val ⟨.tup (lfig.map D.str), .fz⟩, s5, s6, s7, s8, s9, .none, .none] ∧ a ++ rem.flatMap (lawRomP n) = F) (fun x => fin (x.seq _) = _) ?_ ?_ lrow _ _ ⟨rfl, by decide, [], _, _, _, _, _, _, rfl, hF⟩
  · rintro ⟨w, p1, p2, p3⟩ r en o' ⟨rfl, hok, a, s2, s5, s6, s7, s8, s9, rfl, ha⟩
    simp only [List.all_cons, Bool.and_eq_true, decide_eq_true_eq] at hok
    obtain ⟨⟨hw, hw2⟩, hok⟩ := hok
    have e1 : Op.fdivI.ev (.int n) (.int w) = some (.int ((n / w : Nat) : Int)) := by
      rw [c_fdiv (by omega) (Nat.lt_of_le_of_lt (m := 1000) (by omega) (by decide))]
      rfl
    have e2 : ((n / w : Nat) : Int) % 10 = ((n / w % 10 : Nat) : Int) := by omega
    have e3 := lfig_at (n / w % 10) (by omega)
    simp only [lD]
    simp only [List.length_cons, List.length_nil, Nat.reduceAdd, Nat.reduceLeDiff, if_true, List.map_cons, List.map_nil, Nat.reduceSub, List.replicate_succ, List.replicate_zero, List.cons_append, List.nil_append, List.all_cons, List.all_nil, Bool.and_true, Bool.true_and, Bool.and_self, decide_true, decide_false, Bool.false_or, Bool.or_false, List.contains_nil, if_false, Bool.false_eq_true, le_big, nal_fz, nal_fz', nal_ex', E.isHole, run_eq, reduceIte, cnd_bl, sl_0, sl_s, rd_val, rd_own, rd_ownd, pass_fz, pass_ex, pass_al, bind_ok, bind_bad, out_ok, out_bad, seq_next, seq_ret, seq_brk, seq_cnt, seq_bad, ofO_some, ofO_none, ev_var, ev_int, ev_str, ev_bl, ev_non, ev_glb, ev_op, ngI_int, ev_neg, nt_bl, ev_not, ev_and, ev_or, ev_one, ev_ife, oc_bl, ev_chain, ev_call, ev_bi, ev_isi, ev_mt, ev_ix, ev_sl, toI_int, optI_t, optI_f, ev_lst, ev_tup, ev_nil, ev_cons, ss_nil_, ss_cons_, s_set, s_own, s_par, s_ife, s_for, s_whl, s_drop, s_app, obE_s, loop_1, loop_m, s_ret, s_retN, s_nev, s_brk, s_cnt, s_pass, outO_some, outO_none, lk_nil, lk_cons, st1_0, st1_s, put_fz, put_ex, put_own, putV_nil, putV_cons, putA_nil, putA_cons, fin_next, fin_ret, fin_bad, nal_fz, nal_ex, nal_fz, nal_ex, add_ii, sub_ii, lt_ii, le_ii, gt_ii, ge_ii, is_n, isNot_n, eq_ss, ne_ss, eq_ii, ne_ii, eq_ns, in_ss, notIn_ss, kd_add_i, kd_add_s, kd_add_l, kd_mul_i, kd_sub, kd_fdiv, kd_mod, kd_pow, kd_lt, kd_le, kd_gt, kd_ge, kd_eq, kd_ne, kd_is, kd_isn, kd_in, kd_nin, ix_l, ix_t, ix_scr, map_some_, map_none_, bindO_some, bindO_none, it_any, it_A_t, it_A_s, it_A_l, it_L_fz, it_L_ex, it_L_al, it_r1, it_r2, it_r3, it_enum, it_zip, it_zip3, it_zipA, it_Z_s, it_Z_l, ev_lc, lc_fr_n, lc_fr_v, lc_free, lc_tgIx_1, lc_tgIx_m, obE_R, lc_optK_t, lc_optK_f, lc_noExc_ok, lc_noExc_bad, lc_noExc_exc, lcB_1, lcB_2, lcB_3, isO_own, isO_y, onO_eq, onO_s, bi_len_l, bi_len_scr, bi_len_t, bi_abs, bi_all, bi_any, bi_list, bi_tuple, ix_sl_l, ix_sl_scr, ix_d, ev_dlit, put_ownd, kd_mul_s, kd_mul_l, kd_mul_t, kd_inQ, kd_notInQ, kd_addS, kd_addL, isNon_n, isN_bl, isN_int, isN_str, isN_lst, isN_tup, ty_int_n, ty_int_b, ty_int_i, ty_int_s, ty_int_l, ty_int_t, ty_int_scr, ty_int_d, ty_str_n, ty_str_b, ty_str_i, ty_str_s, ty_str_l, ty_str_t, ty_str_scr, ty_str_d, ty_bool_n, ty_bool_b, ty_bool_i, ty_bool_s, ty_bool_l, ty_bool_t, ty_bool_scr, ty_bool_d, ty_list_n, ty_list_b, ty_list_i, ty_list_s, ty_list_l, ty_list_t, ty_list_scr, ty_list_d, ty_tuple_n, ty_tuple_b, ty_tuple_i, ty_tuple_s, ty_tuple_l, ty_tuple_t, ty_tuple_scr, ty_tuple_d, mtr_split, mtr_join, mtr_starts, mtr_lstrip, mtr_indexS, mtr_indexL, mtr_count, mtr_get1, mtr_get2, eq_nn_, ne_nn_, eq_nb_, ne_nb_, eq_ni_, ne_ni_, eq_bn_, ne_bn_, eq_bb_, ne_bb_, eq_bi_, ne_bi_, eq_bs_, ne_bs_, eq_in_, ne_in_, eq_ib_, ne_ib_, eq_is_, ne_is_, eq_sn_, ne_sn_, eq_sb_, ne_sb_, eq_si_, ne_si_, ne_ns_, c_mul, c_fdiv, c_mod, c_pow, c_adds, c_addl, c_ixs, lt600, lt60, lt1000, c_rng1, c_rng2, c_rng3, c_len, c_str, c_int, c_starts, c_indexS, c_sls, Nat.reduceLT, Int.reduceLT, Int.reduceLE, Int.reduceNeg, Int.reduceToNat, Int.reducePow, Int.reduceMul, Int.reduceAdd, Int.reduceSub, Bool.not_true, Bool.not_false, It.slots, E.slot, Nat.reduceBEq, Sc.d, Int.reduceEq, Nat.reduceEqDiff, e1, e2, e3]
    have hZ := ha
    rw [List.flatMap_cons, ← List.append_assoc] at hZ
    refine for_walk (fun c => D.str [c]) (fun rem en o'' => o'' = o' ∧ ∃ (a : Txt) (s9 : Slot), en = [.val ⟨.int n, .fz⟩, .val ⟨.str kR, .fz⟩, s2, .val ⟨.str a, .fz⟩, .val ⟨.tup (lfig.map D.str), .fz⟩, .val ⟨.int w, .fz⟩, .val ⟨.str p1, .fz⟩, .val ⟨.str p2, .fz⟩, .val ⟨.str p3, .fz⟩, s9, .none, .none] ∧ (a ++ rem.flatMap (lsign (w, p1, p2, p3))) ++ r.flatMap (lawRomP n) = F) (fun x => Step _ _ (x.seq _)) ?_ ?_ _ _ _ ⟨rfl, _, _, rfl, hZ⟩
    · rintro c r' en o'' ⟨rfl, a, s9, rfl, ha⟩
      have hs : lsign (w, p1, p2, p3) c = if c = 49 then p1 else if c = 53 then p2 else p3 := rfl
      rw [List.flatMap_cons, ← List.append_assoc] at ha
      have hl := congrArg List.length ha
      rw [List.length_append, List.length_append] at hl
      have e0 : Op.add.ev (.str a) (.str (lsign (w, p1, p2, p3) c)) = some (.str (a ++ lsign (w, p1, p2, p3) c)) := c_adds (by rw [List.length_append] at hl; show _ ≤ 1000000; omega)
      by_cases c1 : c = 49
      · subst c1
        rw [hs, if_pos rfl] at e0 ha
        simp only [List.length_cons, List.length_nil, Nat.reduceAdd, Nat.reduceLeDiff, if_true, List.map_cons, List.map_nil, Nat.reduceSub, List.replicate_succ, List.replicate_zero, List.cons_append, List.nil_append, List.all_cons, List.all_nil, Bool.and_true, Bool.true_and, Bool.and_self, decide_true, decide_false, Bool.false_or, Bool.or_false, List.contains_nil, if_false, Bool.false_eq_true, le_big, nal_fz, nal_fz', nal_ex', E.isHole, run_eq, reduceIte, cnd_bl, sl_0, sl_s, rd_val, rd_own, rd_ownd, pass_fz, pass_ex, pass_al, bind_ok, bind_bad, out_ok, out_bad, seq_next, seq_ret, seq_brk, seq_cnt, seq_bad, ofO_some, ofO_none, ev_var, ev_int, ev_str, ev_bl, ev_non, ev_glb, ev_op, ngI_int, ev_neg, nt_bl, ev_not, ev_and, ev_or, ev_one, ev_ife, oc_bl, ev_chain, ev_call, ev_bi, ev_isi, ev_mt, ev_ix, ev_sl, toI_int, optI_t, optI_f, ev_lst, ev_tup, ev_nil, ev_cons, ss_nil_, ss_cons_, s_set, s_own, s_par, s_ife, s_for, s_whl, s_drop, s_app, obE_s, loop_1, loop_m, s_ret, s_retN, s_nev, s_brk, s_cnt, s_pass, outO_some, outO_none, lk_nil, lk_cons, st1_0, st1_s, put_fz, put_ex, put_own, putV_nil, putV_cons, putA_nil, putA_cons, fin_next, fin_ret, fin_bad, nal_fz, nal_ex, nal_fz, nal_ex, add_ii, sub_ii, lt_ii, le_ii, gt_ii, ge_ii, is_n, isNot_n, eq_ss, ne_ss, eq_ii, ne_ii, eq_ns, in_ss, notIn_ss, kd_add_i, kd_add_s, kd_add_l, kd_mul_i, kd_sub, kd_fdiv, kd_mod, kd_pow, kd_lt, kd_le, kd_gt, kd_ge, kd_eq, kd_ne, kd_is, kd_isn, kd_in, kd_nin, ix_l, ix_t, ix_scr, map_some_, map_none_, bindO_some, bindO_none, it_any, it_A_t, it_A_s, it_A_l, it_L_fz, it_L_ex, it_L_al, it_r1, it_r2, it_r3, it_enum, it_zip, it_zip3, it_zipA, it_Z_s, it_Z_l, ev_lc, lc_fr_n, lc_fr_v, lc_free, lc_tgIx_1, lc_tgIx_m, obE_R, lc_optK_t, lc_optK_f, lc_noExc_ok, lc_noExc_bad, lc_noExc_exc, lcB_1, lcB_2, lcB_3, isO_own, isO_y, onO_eq, onO_s, bi_len_l, bi_len_scr, bi_len_t, bi_abs, bi_all, bi_any, bi_list, bi_tuple, ix_sl_l, ix_sl_scr, ix_d, ev_dlit, put_ownd, kd_mul_s, kd_mul_l, kd_mul_t, kd_inQ, kd_notInQ, kd_addS, kd_addL, isNon_n, isN_bl, isN_int, isN_str, isN_lst, isN_tup, ty_int_n, ty_int_b, ty_int_i, ty_int_s, ty_int_l, ty_int_t, ty_int_scr, ty_int_d, ty_str_n, ty_str_b, ty_str_i, ty_str_s, ty_str_l, ty_str_t, ty_str_scr, ty_str_d, ty_bool_n, ty_bool_b, ty_bool_i, ty_bool_s, ty_bool_l, ty_bool_t, ty_bool_scr, ty_bool_d, ty_list_n, ty_list_b, ty_list_i, ty_list_s, ty_list_l, ty_list_t, ty_list_scr, ty_list_d, ty_tuple_n, ty_tuple_b, ty_tuple_i, ty_tuple_s, ty_tuple_l, ty_tuple_t, ty_tuple_scr, ty_tuple_d, mtr_split, mtr_join, mtr_starts, mtr_lstrip, mtr_indexS, mtr_indexL, mtr_count, mtr_get1, mtr_get2, eq_nn_, ne_nn_, eq_nb_, ne_nb_, eq_ni_, ne_ni_, eq_bn_, ne_bn_, eq_bb_, ne_bb_, eq_bi_, ne_bi_, eq_bs_, ne_bs_, eq_in_, ne_in_, eq_ib_, ne_ib_, eq_is_, ne_is_, eq_sn_, ne_sn_, eq_sb_, ne_sb_, eq_si_, ne_si_, ne_ns_, c_mul, c_fdiv, c_mod, c_pow, c_adds, c_addl, c_ixs, lt600, lt60, lt1000, c_rng1, c_rng2, c_rng3, c_len, c_str, c_int, c_starts, c_indexS, c_sls, Nat.reduceLT, Int.reduceLT, Int.reduceLE, Int.reduceNeg, Int.reduceToNat, Int.reducePow, Int.reduceMul, Int.reduceAdd, Int.reduceSub, Bool.not_true, Bool.not_false, It.slots, E.slot, Nat.reduceBEq, Sc.d, Int.reduceEq, Nat.reduceEqDiff, show (([49] : Txt) == [49]) = true from rfl, e0]
        exact ⟨rfl, _, _, rfl, ha⟩
      · have c1' : (([c] : Txt) == [49]) = false := by simp [c1]
        by_cases c2 : c = 53
        · subst c2
          rw [hs, if_neg (by decide), if_pos rfl] at e0 ha
          simp only [List.length_cons, List.length_nil, Nat.reduceAdd, Nat.reduceLeDiff, if_true, List.map_cons, List.map_nil, Nat.reduceSub, List.replicate_succ, List.replicate_zero, List.cons_append, List.nil_append, List.all_cons, List.all_nil, Bool.and_true, Bool.true_and, Bool.and_self, decide_true, decide_false, Bool.false_or, Bool.or_false, List.contains_nil, if_false, Bool.false_eq_true, le_big, nal_fz, nal_fz', nal_ex', E.isHole, run_eq, reduceIte, cnd_bl, sl_0, sl_s, rd_val, rd_own, rd_ownd, pass_fz, pass_ex, pass_al, bind_ok, bind_bad, out_ok, out_bad, seq_next, seq_ret, seq_brk, seq_cnt, seq_bad, ofO_some, ofO_none, ev_var, ev_int, ev_str, ev_bl, ev_non, ev_glb, ev_op, ngI_int, ev_neg, nt_bl, ev_not, ev_and, ev_or, ev_one, ev_ife, oc_bl, ev_chain, ev_call, ev_bi, ev_isi, ev_mt, ev_ix, ev_sl, toI_int, optI_t, optI_f, ev_lst, ev_tup, ev_nil, ev_cons, ss_nil_, ss_cons_, s_set, s_own, s_par, s_ife, s_for, s_whl, s_drop, s_app, obE_s, loop_1, loop_m, s_ret, s_retN, s_nev, s_brk, s_cnt, s_pass, outO_some, outO_none, lk_nil, lk_cons, st1_0, st1_s, put_fz, put_ex, put_own, putV_nil, putV_cons, putA_nil, putA_cons, fin_next, fin_ret, fin_bad, nal_fz, nal_ex, nal_fz, nal_ex, add_ii, sub_ii, lt_ii, le_ii, gt_ii, ge_ii, is_n, isNot_n, eq_ss, ne_ss, eq_ii, ne_ii, eq_ns, in_ss, notIn_ss, kd_add_i, kd_add_s, kd_add_l, kd_mul_i, kd_sub, kd_fdiv, kd_mod, kd_pow, kd_lt, kd_le, kd_gt, kd_ge, kd_eq, kd_ne, kd_is, kd_isn, kd_in, kd_nin, ix_l, ix_t, ix_scr, map_some_, map_none_, bindO_some, bindO_none, it_any, it_A_t, it_A_s, it_A_l, it_L_fz, it_L_ex, it_L_al, it_r1, it_r2, it_r3, it_enum, it_zip, it_zip3, it_zipA, it_Z_s, it_Z_l, ev_lc, lc_fr_n, lc_fr_v, lc_free, lc_tgIx_1, lc_tgIx_m, obE_R, lc_optK_t, lc_optK_f, lc_noExc_ok, lc_noExc_bad, lc_noExc_exc, lcB_1, lcB_2, lcB_3, isO_own, isO_y, onO_eq, onO_s, bi_len_l, bi_len_scr, bi_len_t, bi_abs, bi_all, bi_any, bi_list, bi_tuple, ix_sl_l, ix_sl_scr, ix_d, ev_dlit, put_ownd, kd_mul_s, kd_mul_l, kd_mul_t, kd_inQ, kd_notInQ, kd_addS, kd_addL, isNon_n, isN_bl, isN_int, isN_str, isN_lst, isN_tup, ty_int_n, ty_int_b, ty_int_i, ty_int_s, ty_int_l, ty_int_t, ty_int_scr, ty_int_d, ty_str_n, ty_str_b, ty_str_i, ty_str_s, ty_str_l, ty_str_t, ty_str_scr, ty_str_d, ty_bool_n, ty_bool_b, ty_bool_i, ty_bool_s, ty_bool_l, ty_bool_t, ty_bool_scr, ty_bool_d, ty_list_n, ty_list_b, ty_list_i, ty_list_s, ty_list_l, ty_list_t, ty_list_scr, ty_list_d, ty_tuple_n, ty_tuple_b, ty_tuple_i, ty_tuple_s, ty_tuple_l, ty_tuple_t, ty_tuple_scr, ty_tuple_d, mtr_split, mtr_join, mtr_starts, mtr_lstrip, mtr_indexS, mtr_indexL, mtr_count, mtr_get1, mtr_get2, eq_nn_, ne_nn_, eq_nb_, ne_nb_, eq_ni_, ne_ni_, eq_bn_, ne_bn_, eq_bb_, ne_bb_, eq_bi_, ne_bi_, eq_bs_, ne_bs_, eq_in_, ne_in_, eq_ib_, ne_ib_, eq_is_, ne_is_, eq_sn_, ne_sn_, eq_sb_, ne_sb_, eq_si_, ne_si_, ne_ns_, c_mul, c_fdiv, c_mod, c_pow, c_adds, c_addl, c_ixs, lt600, lt60, lt1000, c_rng1, c_rng2, c_rng3, c_len, c_str, c_int, c_starts, c_indexS, c_sls, Nat.reduceLT, Int.reduceLT, Int.reduceLE, Int.reduceNeg, Int.reduceToNat, Int.reducePow, Int.reduceMul, Int.reduceAdd, Int.reduceSub, Bool.not_true, Bool.not_false, It.slots, E.slot, Nat.reduceBEq, Sc.d, Int.reduceEq, Nat.reduceEqDiff, c1', show (([53] : Txt) == [53]) = true from rfl, e0]
          exact ⟨rfl, _, _, rfl, ha⟩
        · have c2' : (([c] : Txt) == [53]) = false := by simp [c2]
          rw [hs, if_neg c1, if_neg c2] at e0 ha
          simp only [List.length_cons, List.length_nil, Nat.reduceAdd, Nat.reduceLeDiff, if_true, List.map_cons, List.map_nil, Nat.reduceSub, List.replicate_succ, List.replicate_zero, List.cons_append, List.nil_append, List.all_cons, List.all_nil, Bool.and_true, Bool.true_and, Bool.and_self, decide_true, decide_false, Bool.false_or, Bool.or_false, List.contains_nil, if_false, Bool.false_eq_true, le_big, nal_fz, nal_fz', nal_ex', E.isHole, run_eq, reduceIte, cnd_bl, sl_0, sl_s, rd_val, rd_own, rd_ownd, pass_fz, pass_ex, pass_al, bind_ok, bind_bad, out_ok, out_bad, seq_next, seq_ret, seq_brk, seq_cnt, seq_bad, ofO_some, ofO_none, ev_var, ev_int, ev_str, ev_bl, ev_non, ev_glb, ev_op, ngI_int, ev_neg, nt_bl, ev_not, ev_and, ev_or, ev_one, ev_ife, oc_bl, ev_chain, ev_call, ev_bi, ev_isi, ev_mt, ev_ix, ev_sl, toI_int, optI_t, optI_f, ev_lst, ev_tup, ev_nil, ev_cons, ss_nil_, ss_cons_, s_set, s_own, s_par, s_ife, s_for, s_whl, s_drop, s_app, obE_s, loop_1, loop_m, s_ret, s_retN, s_nev, s_brk, s_cnt, s_pass, outO_some, outO_none, lk_nil, lk_cons, st1_0, st1_s, put_fz, put_ex, put_own, putV_nil, putV_cons, putA_nil, putA_cons, fin_next, fin_ret, fin_bad, nal_fz, nal_ex, nal_fz, nal_ex, add_ii, sub_ii, lt_ii, le_ii, gt_ii, ge_ii, is_n, isNot_n, eq_ss, ne_ss, eq_ii, ne_ii, eq_ns, in_ss, notIn_ss, kd_add_i, kd_add_s, kd_add_l, kd_mul_i, kd_sub, kd_fdiv, kd_mod, kd_pow, kd_lt, kd_le, kd_gt, kd_ge, kd_eq, kd_ne, kd_is, kd_isn, kd_in, kd_nin, ix_l, ix_t, ix_scr, map_some_, map_none_, bindO_some, bindO_none, it_any, it_A_t, it_A_s, it_A_l, it_L_fz, it_L_ex, it_L_al, it_r1, it_r2, it_r3, it_enum, it_zip, it_zip3, it_zipA, it_Z_s, it_Z_l, ev_lc, lc_fr_n, lc_fr_v, lc_free, lc_tgIx_1, lc_tgIx_m, obE_R, lc_optK_t, lc_optK_f, lc_noExc_ok, lc_noExc_bad, lc_noExc_exc, lcB_1, lcB_2, lcB_3, isO_own, isO_y, onO_eq, onO_s, bi_len_l, bi_len_scr, bi_len_t, bi_abs, bi_all, bi_any, bi_list, bi_tuple, ix_sl_l, ix_sl_scr, ix_d, ev_dlit, put_ownd, kd_mul_s, kd_mul_l, kd_mul_t, kd_inQ, kd_notInQ, kd_addS, kd_addL, isNon_n, isN_bl, isN_int, isN_str, isN_lst, isN_tup, ty_int_n, ty_int_b, ty_int_i, ty_int_s, ty_int_l, ty_int_t, ty_int_scr, ty_int_d, ty_str_n, ty_str_b, ty_str_i, ty_str_s, ty_str_l, ty_str_t, ty_str_scr, ty_str_d, ty_bool_n, ty_bool_b, ty_bool_i, ty_bool_s, ty_bool_l, ty_bool_t, ty_bool_scr, ty_bool_d, ty_list_n, ty_list_b, ty_list_i, ty_list_s, ty_list_l, ty_list_t, ty_list_scr, ty_list_d, ty_tuple_n, ty_tuple_b, ty_tuple_i, ty_tuple_s, ty_tuple_l, ty_tuple_t, ty_tuple_scr, ty_tuple_d, mtr_split, mtr_join, mtr_starts, mtr_lstrip, mtr_indexS, mtr_indexL, mtr_count, mtr_get1, mtr_get2, eq_nn_, ne_nn_, eq_nb_, ne_nb_, eq_ni_, ne_ni_, eq_bn_, ne_bn_, eq_bb_, ne_bb_, eq_bi_, ne_bi_, eq_bs_, ne_bs_, eq_in_, ne_in_, eq_ib_, ne_ib_, eq_is_, ne_is_, eq_sn_, ne_sn_, eq_sb_, ne_sb_, eq_si_, ne_si_, ne_ns_, c_mul, c_fdiv, c_mod, c_pow, c_adds, c_addl, c_ixs, lt600, lt60, lt1000, c_rng1, c_rng2, c_rng3, c_len, c_str, c_int, c_starts, c_indexS, c_sls, Nat.reduceLT, Int.reduceLT, Int.reduceLE, Int.reduceNeg, Int.reduceToNat, Int.reducePow, Int.reduceMul, Int.reduceAdd, Int.reduceSub, Bool.not_true, Bool.not_false, It.slots, E.slot, Nat.reduceBEq, Sc.d, Int.reduceEq, Nat.reduceEqDiff, c1', c2', e0]
          exact ⟨rfl, _, _, rfl, ha⟩
    · rintro en o'' ⟨rfl, a, s9, rfl, ha⟩
      simp only [List.length_cons, List.length_nil, Nat.reduceAdd, Nat.reduceLeDiff, if_true, List.map_cons, List.map_nil, Nat.reduceSub, List.replicate_succ, List.replicate_zero, List.cons_append, List.nil_append, List.all_cons, List.all_nil, Bool.and_true, Bool.true_and, Bool.and_self, decide_true, decide_false, Bool.false_or, Bool.or_false, List.contains_nil, if_false, Bool.false_eq_true, le_big, nal_fz, nal_fz', nal_ex', E.isHole, run_eq, reduceIte, cnd_bl, sl_0, sl_s, rd_val, rd_own, rd_ownd, pass_fz, pass_ex, pass_al, bind_ok, bind_bad, out_ok, out_bad, seq_next, seq_ret, seq_brk, seq_cnt, seq_bad, ofO_some, ofO_none, ev_var, ev_int, ev_str, ev_bl, ev_non, ev_glb, ev_op, ngI_int, ev_neg, nt_bl, ev_not, ev_and, ev_or, ev_one, ev_ife, oc_bl, ev_chain, ev_call, ev_bi, ev_isi, ev_mt, ev_ix, ev_sl, toI_int, optI_t, optI_f, ev_lst, ev_tup, ev_nil, ev_cons, ss_nil_, ss_cons_, s_set, s_own, s_par, s_ife, s_for, s_whl, s_drop, s_app, obE_s, loop_1, loop_m, s_ret, s_retN, s_nev, s_brk, s_cnt, s_pass, outO_some, outO_none, lk_nil, lk_cons, st1_0, st1_s, put_fz, put_ex, put_own, putV_nil, putV_cons, putA_nil, putA_cons, fin_next, fin_ret, fin_bad, nal_fz, nal_ex, nal_fz, nal_ex, add_ii, sub_ii, lt_ii, le_ii, gt_ii, ge_ii, is_n, isNot_n, eq_ss, ne_ss, eq_ii, ne_ii, eq_ns, in_ss, notIn_ss, kd_add_i, kd_add_s, kd_add_l, kd_mul_i, kd_sub, kd_fdiv, kd_mod, kd_pow, kd_lt, kd_le, kd_gt, kd_ge, kd_eq, kd_ne, kd_is, kd_isn, kd_in, kd_nin, ix_l, ix_t, ix_scr, map_some_, map_none_, bindO_some, bindO_none, it_any, it_A_t, it_A_s, it_A_l, it_L_fz, it_L_ex, it_L_al, it_r1, it_r2, it_r3, it_enum, it_zip, it_zip3, it_zipA, it_Z_s, it_Z_l, ev_lc, lc_fr_n, lc_fr_v, lc_free, lc_tgIx_1, lc_tgIx_m, obE_R, lc_optK_t, lc_optK_f, lc_noExc_ok, lc_noExc_bad, lc_noExc_exc, lcB_1, lcB_2, lcB_3, isO_own, isO_y, onO_eq, onO_s, bi_len_l, bi_len_scr, bi_len_t, bi_abs, bi_all, bi_any, bi_list, bi_tuple, ix_sl_l, ix_sl_scr, ix_d, ev_dlit, put_ownd, kd_mul_s, kd_mul_l, kd_mul_t, kd_inQ, kd_notInQ, kd_addS, kd_addL, isNon_n, isN_bl, isN_int, isN_str, isN_lst, isN_tup, ty_int_n, ty_int_b, ty_int_i, ty_int_s, ty_int_l, ty_int_t, ty_int_scr, ty_int_d, ty_str_n, ty_str_b, ty_str_i, ty_str_s, ty_str_l, ty_str_t, ty_str_scr, ty_str_d, ty_bool_n, ty_bool_b, ty_bool_i, ty_bool_s, ty_bool_l, ty_bool_t, ty_bool_scr, ty_bool_d, ty_list_n, ty_list_b, ty_list_i, ty_list_s, ty_list_l, ty_list_t, ty_list_scr, ty_list_d, ty_tuple_n, ty_tuple_b, ty_tuple_i, ty_tuple_s, ty_tuple_l, ty_tuple_t, ty_tuple_scr, ty_tuple_d, mtr_split, mtr_join, mtr_starts, mtr_lstrip, mtr_indexS, mtr_indexL, mtr_count, mtr_get1, mtr_get2, eq_nn_, ne_nn_, eq_nb_, ne_nb_, eq_ni_, ne_ni_, eq_bn_, ne_bn_, eq_bb_, ne_bb_, eq_bi_, ne_bi_, eq_bs_, ne_bs_, eq_in_, ne_in_, eq_ib_, ne_ib_, eq_is_, ne_is_, eq_sn_, ne_sn_, eq_sb_, ne_sb_, eq_si_, ne_si_, ne_ns_, c_mul, c_fdiv, c_mod, c_pow, c_adds, c_addl, c_ixs, lt600, lt60, lt1000, c_rng1, c_rng2, c_rng3, c_len, c_str, c_int, c_starts, c_indexS, c_sls, Nat.reduceLT, Int.reduceLT, Int.reduceLE, Int.reduceNeg, Int.reduceToNat, Int.reducePow, Int.reduceMul, Int.reduceAdd, Int.reduceSub, Bool.not_true, Bool.not_false, It.slots, E.slot, Nat.reduceBEq, Sc.d, Int.reduceEq, Nat.reduceEqDiff]
      exact ⟨rfl, hok, a, _, _, _, _, _, _, rfl, by simpa using ha⟩
  · rintro en o' ⟨rfl, -, a, s2, s5, s6, s7, s8, s9, rfl, ha⟩
    have ha : a = F := by simpa using ha
    simp only [List.length_cons, List.length_nil, Nat.reduceAdd, Nat.reduceLeDiff, if_true, List.map_cons, List.map_nil, Nat.reduceSub, List.replicate_succ, List.replicate_zero, List.cons_append, List.nil_append, List.all_cons, List.all_nil, Bool.and_true, Bool.true_and, Bool.and_self, decide_true, decide_false, Bool.false_or, Bool.or_false, List.contains_nil, if_false, Bool.false_eq_true, le_big, nal_fz, nal_fz', nal_ex', E.isHole, run_eq, reduceIte, cnd_bl, sl_0, sl_s, rd_val, rd_own, rd_ownd, pass_fz, pass_ex, pass_al, bind_ok, bind_bad, out_ok, out_bad, seq_next, seq_ret, seq_brk, seq_cnt, seq_bad, ofO_some, ofO_none, ev_var, ev_int, ev_str, ev_bl, ev_non, ev_glb, ev_op, ngI_int, ev_neg, nt_bl, ev_not, ev_and, ev_or, ev_one, ev_ife, oc_bl, ev_chain, ev_call, ev_bi, ev_isi, ev_mt, ev_ix, ev_sl, toI_int, optI_t, optI_f, ev_lst, ev_tup, ev_nil, ev_cons, ss_nil_, ss_cons_, s_set, s_own, s_par, s_ife, s_for, s_whl, s_drop, s_app, obE_s, loop_1, loop_m, s_ret, s_retN, s_nev, s_brk, s_cnt, s_pass, outO_some, outO_none, lk_nil, lk_cons, st1_0, st1_s, put_fz, put_ex, put_own, putV_nil, putV_cons, putA_nil, putA_cons, fin_next, fin_ret, fin_bad, nal_fz, nal_ex, nal_fz, nal_ex, add_ii, sub_ii, lt_ii, le_ii, gt_ii, ge_ii, is_n, isNot_n, eq_ss, ne_ss, eq_ii, ne_ii, eq_ns, in_ss, notIn_ss, kd_add_i, kd_add_s, kd_add_l, kd_mul_i, kd_sub, kd_fdiv, kd_mod, kd_pow, kd_lt, kd_le, kd_gt, kd_ge, kd_eq, kd_ne, kd_is, kd_isn, kd_in, kd_nin, ix_l, ix_t, ix_scr, map_some_, map_none_, bindO_some, bindO_none, it_any, it_A_t, it_A_s, it_A_l, it_L_fz, it_L_ex, it_L_al, it_r1, it_r2, it_r3, it_enum, it_zip, it_zip3, it_zipA, it_Z_s, it_Z_l, ev_lc, lc_fr_n, lc_fr_v, lc_free, lc_tgIx_1, lc_tgIx_m, obE_R, lc_optK_t, lc_optK_f, lc_noExc_ok, lc_noExc_bad, lc_noExc_exc, lcB_1, lcB_2, lcB_3, isO_own, isO_y, onO_eq, onO_s, bi_len_l, bi_len_scr, bi_len_t, bi_abs, bi_all, bi_any, bi_list, bi_tuple, ix_sl_l, ix_sl_scr, ix_d, ev_dlit, put_ownd, kd_mul_s, kd_mul_l, kd_mul_t, kd_inQ, kd_notInQ, kd_addS, kd_addL, isNon_n, isN_bl, isN_int, isN_str, isN_lst, isN_tup, ty_int_n, ty_int_b, ty_int_i, ty_int_s, ty_int_l, ty_int_t, ty_int_scr, ty_int_d, ty_str_n, ty_str_b, ty_str_i, ty_str_s, ty_str_l, ty_str_t, ty_str_scr, ty_str_d, ty_bool_n, ty_bool_b, ty_bool_i, ty_bool_s, ty_bool_l, ty_bool_t, ty_bool_scr, ty_bool_d, ty_list_n, ty_list_b, ty_list_i, ty_list_s, ty_list_l, ty_list_t, ty_list_scr, ty_list_d, ty_tuple_n, ty_tuple_b, ty_tuple_i, ty_tuple_s, ty_tuple_l, ty_tuple_t, ty_tuple_scr, ty_tuple_d, mtr_split, mtr_join, mtr_starts, mtr_lstrip, mtr_indexS, mtr_indexL, mtr_count, mtr_get1, mtr_get2, eq_nn_, ne_nn_, eq_nb_, ne_nb_, eq_ni_, ne_ni_, eq_bn_, ne_bn_, eq_bb_, ne_bb_, eq_bi_, ne_bi_, eq_bs_, ne_bs_, eq_in_, ne_in_, eq_ib_, ne_ib_, eq_is_, ne_is_, eq_sn_, ne_sn_, eq_sb_, ne_sb_, eq_si_, ne_si_, ne_ns_, c_mul, c_fdiv, c_mod, c_pow, c_adds, c_addl, c_ixs, lt600, lt60, lt1000, c_rng1, c_rng2, c_rng3, c_len, c_str, c_int, c_starts, c_indexS, c_sls, Nat.reduceLT, Int.reduceLT, Int.reduceLE, Int.reduceNeg, Int.reduceToNat, Int.reducePow, Int.reduceMul, Int.reduceAdd, Int.reduceSub, Bool.not_true, Bool.not_false, It.slots, E.slot, Nat.reduceBEq, Sc.d, Int.reduceEq, Nat.reduceEqDiff, ha]
theorem w10F (n : Nat) (h1 : 1 ≤ n) (h2 : n ≤ 3099) (o : Objs) : runDef G b__law_numeral 12 [⟨.int n, .fz⟩, ⟨.str kF, .fz⟩] o = .ok ⟨.str (figs n), .fz⟩ o := by
  unfold b__law_numeral
  have h1 : (n : Int).natAbs < 2 ^ 1000 := Nat.lt_of_le_of_lt (m := 100000) (by omega) (by decide)
  have h2 : strI (n : Int) = figs n := by
    unfold strI
    rw [if_neg (by omega)]; rfl
  simp only [List.length_cons, List.length_nil, Nat.reduceAdd, Nat.reduceLeDiff, if_true, List.map_cons, List.map_nil, Nat.reduceSub, List.replicate_succ, List.replicate_zero, List.cons_append, List.nil_append, List.all_cons, List.all_nil, Bool.and_true, Bool.true_and, Bool.and_self, decide_true, decide_false, Bool.false_or, Bool.or_false, List.contains_nil, if_false, Bool.false_eq_true, le_big, nal_fz, nal_fz', nal_ex', E.isHole, run_eq, reduceIte, cnd_bl, sl_0, sl_s, rd_val, rd_own, rd_ownd, pass_fz, pass_ex, pass_al, bind_ok, bind_bad, out_ok, out_bad, seq_next, seq_ret, seq_brk, seq_cnt, seq_bad, ofO_some, ofO_none, ev_var, ev_int, ev_str, ev_bl, ev_non, ev_glb, ev_op, ngI_int, ev_neg, nt_bl, ev_not, ev_and, ev_or, ev_one, ev_ife, oc_bl, ev_chain, ev_call, ev_bi, ev_isi, ev_mt, ev_ix, ev_sl, toI_int, optI_t, optI_f, ev_lst, ev_tup, ev_nil, ev_cons, ss_nil_, ss_cons_, s_set, s_own, s_par, s_ife, s_for, s_whl, s_drop, s_app, obE_s, loop_1, loop_m, s_ret, s_retN, s_nev, s_brk, s_cnt, s_pass, outO_some, outO_none, lk_nil, lk_cons, st1_0, st1_s, put_fz, put_ex, put_own, putV_nil, putV_cons, putA_nil, putA_cons, fin_next, fin_ret, fin_bad, nal_fz, nal_ex, nal_fz, nal_ex, add_ii, sub_ii, lt_ii, le_ii, gt_ii, ge_ii, is_n, isNot_n, eq_ss, ne_ss, eq_ii, ne_ii, eq_ns, in_ss, notIn_ss, kd_add_i, kd_add_s, kd_add_l, kd_mul_i, kd_sub, kd_fdiv, kd_mod, kd_pow, kd_lt, kd_le, kd_gt, kd_ge, kd_eq, kd_ne, kd_is, kd_isn, kd_in, kd_nin, ix_l, ix_t, ix_scr, map_some_, map_none_, bindO_some, bindO_none, it_any, it_A_t, it_A_s, it_A_l, it_L_fz, it_L_ex, it_L_al, it_r1, it_r2, it_r3, it_enum, it_zip, it_zip3, it_zipA, it_Z_s, it_Z_l, ev_lc, lc_fr_n, lc_fr_v, lc_free, lc_tgIx_1, lc_tgIx_m, obE_R, lc_optK_t, lc_optK_f, lc_noExc_ok, lc_noExc_bad, lc_noExc_exc, lcB_1, lcB_2, lcB_3, isO_own, isO_y, onO_eq, onO_s, bi_len_l, bi_len_scr, bi_len_t, bi_abs, bi_all, bi_any, bi_list, bi_tuple, ix_sl_l, ix_sl_scr, ix_d, ev_dlit, put_ownd, kd_mul_s, kd_mul_l, kd_mul_t, kd_inQ, kd_notInQ, kd_addS, kd_addL, isNon_n, isN_bl, isN_int, isN_str, isN_lst, isN_tup, ty_int_n, ty_int_b, ty_int_i, ty_int_s, ty_int_l, ty_int_t, ty_int_scr, ty_int_d, ty_str_n, ty_str_b, ty_str_i, ty_str_s, ty_str_l, ty_str_t, ty_str_scr, ty_str_d, ty_bool_n, ty_bool_b, ty_bool_i, ty_bool_s, ty_bool_l, ty_bool_t, ty_bool_scr, ty_bool_d, ty_list_n, ty_list_b, ty_list_i, ty_list_s, ty_list_l, ty_list_t, ty_list_scr, ty_list_d, ty_tuple_n, ty_tuple_b, ty_tuple_i, ty_tuple_s, ty_tuple_l, ty_tuple_t, ty_tuple_scr, ty_tuple_d, mtr_split, mtr_join, mtr_starts, mtr_lstrip, mtr_indexS, mtr_indexL, mtr_count, mtr_get1, mtr_get2, eq_nn_, ne_nn_, eq_nb_, ne_nb_, eq_ni_, ne_ni_, eq_bn_, ne_bn_, eq_bb_, ne_bb_, eq_bi_, ne_bi_, eq_bs_, ne_bs_, eq_in_, ne_in_, eq_ib_, ne_ib_, eq_is_, ne_is_, eq_sn_, ne_sn_, eq_sb_, ne_sb_, eq_si_, ne_si_, ne_ns_, c_mul, c_fdiv, c_mod, c_pow, c_adds, c_addl, c_ixs, lt600, lt60, lt1000, c_rng1, c_rng2, c_rng3, c_len, c_str, c_int, c_starts, c_indexS, c_sls, Nat.reduceLT, Int.reduceLT, Int.reduceLE, Int.reduceNeg, Int.reduceToNat, Int.reducePow, Int.reduceMul, Int.reduceAdd, Int.reduceSub, Bool.not_true, Bool.not_false, It.slots, E.slot, Nat.reduceBEq, Sc.d, Int.reduceEq, Nat.reduceEqDiff, kk_FF, h1, h2]
theorem rr__law_numeral (f9 : G.fn 9 = m__law_pow) : ∀ rs o, (m__law_numeral rs o).isBad = false → runDef G b__law_numeral 12 rs o = m__law_numeral rs o := by
  intro rs o h
  unfold m__law_numeral at h
  split at h
  · refine ifBad h fun hp => ?_
    rename_i _ n k
    obtain ⟨a, b, hk⟩ := hp
    obtain ⟨m, rfl⟩ := Int.eq_ofNat_of_zero_le (show 0 ≤ n by omega)
    rw [Int.toNat_natCast, ← (num_ok m k (by omega) (by omega) hk).1]
    rcases hk with rfl | rfl | rfl
    · exact w10F G m (by omega) (by omega) o
    · exact w10L G f9 m (by omega) (by omega) o
    · exact w10R G m (by omega) (by omega) o
  · cases h
end
end B
end

section
set_option Elab.async false
set_option linter.all false
set_option maxRecDepth 100000
set_option maxHeartbeats 1000000
/-! N7: the law's reading, walked. -/
namespace B
def lawEnd (t k : Txt) (v : Int) : Option Nat := if 1 ≤ v ∧ v ≤ 3099 ∧ lawNumF v.toNat k = t then some v.toNat else none
def wD : List (DKey × Sc) := [(.inr [105], .int 1), (.inr [118], .int 5), (.inr [120], .int 10), (.inr [108], .int 50), (.inr [99], .int 100), (.inr [100], .int 500), (.inr [109], .int 1000)]
theorem wD_at (c : Nat) (h : romS.contains c = true) : dget wD (.inr [c]) = some (.int (worth c)) := by
  have : c = 105 ∨ c = 118 ∨ c = 120 ∨ c = 108 ∨ c = 99 ∨ c = 100 ∨ c = 109 := by simpa [romS] using h
  rcases this with rfl | rfl | rfl | rfl | rfl | rfl | rfl <;> rfl
theorem rom32 (c : Nat) (h : romS.contains c = true) : (([c] : Txt) == [32]) = false := by
  have : c = 105 ∨ c = 118 ∨ c = 120 ∨ c = 108 ∨ c = 99 ∨ c = 100 ∨ c = 109 := by simpa [romS] using h
  rcases this with rfl | rfl | rfl | rfl | rfl | rfl | rfl <;> rfl
theorem all_t {α : Type} {p : α → Bool} {xs : List α} (h : ¬ (xs.all p = false)) : xs.all p = true := by simpa using h
theorem zip_tail : ∀ (c : Nat) (r : Txt), zipD ((c :: r).map fun c => D.str [c]) ((r ++ [32]).map fun c => D.str [c]) = D.tup [.str [c], .str [r.headD 32]] :: zipD (r.map fun c => D.str [c]) ((r.tail ++ [32]).map fun c => D.str [c])
  | c, [] => rfl
  | c, d :: r => rfl
section
variable (G : Sg)
theorem rr__law_value (f10 : G.fn 10 = m__law_numeral) : ∀ rs o, (m__law_value rs o).isBad = false → runDef G b__law_value 7 rs o = m__law_value rs o := by
  intro rs o h
  unfold m__law_value at h
  split at h
  · refine ifBad h fun hp => ?_
    rename_i _ t k
    obtain ⟨ht, hk⟩ := hp
    rw [from_law t k hk]
    unfold b__law_value
    generalize hT : Ss.cons (S.ret (E.ife _ _ _)) Ss.nil = T
    have hend : ∀ v s3 s4 s5 s6, T.ev G [] [.val ⟨.str t, .fz⟩, .val ⟨.str k, .fz⟩, .val ⟨.int v, .fz⟩, s3, s4, s5, s6] o = .ret ⟨optD (lawEnd t k v), .fz⟩ o := by
      intro v s3 s4 s5 s6
      subst hT
      unfold lawEnd
      by_cases h1 : 1 ≤ v
      · by_cases h2 : v ≤ 3099
        · have h1' : decide ((1 : Int) ≤ v) = true := decide_eq_true (by omega)
          have h2' : decide ((v : Int) ≤ 3099) = true := decide_eq_true (by omega)
          have e0 := (num_ok v.toNat k (by omega) (by omega) hk).1
          have e3 : m__law_numeral [⟨.int v, .fz⟩, ⟨.str k, .fz⟩] o = .ok ⟨.str (numF v.toNat k), .fz⟩ o := if_pos ⟨h1, h2, hk⟩
          rw [e0]
          obtain ⟨w, hw⟩ := Int.eq_ofNat_of_zero_le (show 0 ≤ v by omega)
          have hw' : v = (v.toNat : Int) := by omega
          by_cases h3 : numF v.toNat k = t
          · have h3' : (numF v.toNat k == t) = true := beq_iff_eq.2 h3
            rw [if_pos ⟨h1, h2, h3⟩]
            simp only [List.length_cons, List.length_nil, Nat.reduceAdd, Nat.reduceLeDiff, if_true, List.map_cons, List.map_nil, Nat.reduceSub, List.replicate_succ, List.replicate_zero, List.cons_append, List.nil_append, List.all_cons, List.all_nil, Bool.and_true, Bool.true_and, Bool.and_self, decide_true, decide_false, Bool.false_or, Bool.or_false, List.contains_nil, if_false, Bool.false_eq_true, le_big, nal_fz, nal_fz', nal_ex', E.isHole, run_eq, reduceIte, cnd_bl, sl_0, sl_s, rd_val, rd_own, rd_ownd, pass_fz, pass_ex, pass_al, bind_ok, bind_bad, out_ok, out_bad, seq_next, seq_ret, seq_brk, seq_cnt, seq_bad, ofO_some, ofO_none, ev_var, ev_int, ev_str, ev_bl, ev_non, ev_glb, ev_op, ngI_int, ev_neg, nt_bl, ev_not, ev_and, ev_or, ev_one, ev_ife, oc_bl, ev_chain, ev_call, ev_bi, ev_isi, ev_mt, ev_ix, ev_sl, toI_int, optI_t, optI_f, ev_lst, ev_tup, ev_nil, ev_cons, ss_nil_, ss_cons_, s_set, s_own, s_par, s_ife, s_for, s_whl, s_drop, s_app, obE_s, loop_1, loop_m, s_ret, s_retN, s_nev, s_brk, s_cnt, s_pass, outO_some, outO_none, lk_nil, lk_cons, st1_0, st1_s, put_fz, put_ex, put_own, putV_nil, putV_cons, putA_nil, putA_cons, fin_next, fin_ret, fin_bad, nal_fz, nal_ex, nal_fz, nal_ex, add_ii, sub_ii, lt_ii, le_ii, gt_ii, ge_ii, is_n, isNot_n, eq_ss, ne_ss, eq_ii, ne_ii, eq_ns, in_ss, notIn_ss, kd_add_i, kd_add_s, kd_add_l, kd_mul_i, kd_sub, kd_fdiv, kd_mod, kd_pow, kd_lt, kd_le, kd_gt, kd_ge, kd_eq, kd_ne, kd_is, kd_isn, kd_in, kd_nin, ix_l, ix_t, ix_scr, map_some_, map_none_, bindO_some, bindO_none, it_any, it_A_t, it_A_s, it_A_l, it_L_fz, it_L_ex, it_L_al, it_r1, it_r2, it_r3, it_enum, it_zip, it_zip3, it_zipA, it_Z_s, it_Z_l, ev_lc, lc_fr_n, lc_fr_v, lc_free, lc_tgIx_1, lc_tgIx_m, obE_R, lc_optK_t, lc_optK_f, lc_noExc_ok, lc_noExc_bad, lc_noExc_exc, lcB_1, lcB_2, lcB_3, isO_own, isO_y, onO_eq, onO_s, bi_len_l, bi_len_scr, bi_len_t, bi_abs, bi_all, bi_any, bi_list, bi_tuple, ix_sl_l, ix_sl_scr, ix_d, ev_dlit, put_ownd, kd_mul_s, kd_mul_l, kd_mul_t, kd_inQ, kd_notInQ, kd_addS, kd_addL, isNon_n, isN_bl, isN_int, isN_str, isN_lst, isN_tup, ty_int_n, ty_int_b, ty_int_i, ty_int_s, ty_int_l, ty_int_t, ty_int_scr, ty_int_d, ty_str_n, ty_str_b, ty_str_i, ty_str_s, ty_str_l, ty_str_t, ty_str_scr, ty_str_d, ty_bool_n, ty_bool_b, ty_bool_i, ty_bool_s, ty_bool_l, ty_bool_t, ty_bool_scr, ty_bool_d, ty_list_n, ty_list_b, ty_list_i, ty_list_s, ty_list_l, ty_list_t, ty_list_scr, ty_list_d, ty_tuple_n, ty_tuple_b, ty_tuple_i, ty_tuple_s, ty_tuple_l, ty_tuple_t, ty_tuple_scr, ty_tuple_d, mtr_split, mtr_join, mtr_starts, mtr_lstrip, mtr_indexS, mtr_indexL, mtr_count, mtr_get1, mtr_get2, eq_nn_, ne_nn_, eq_nb_, ne_nb_, eq_ni_, ne_ni_, eq_bn_, ne_bn_, eq_bb_, ne_bb_, eq_bi_, ne_bi_, eq_bs_, ne_bs_, eq_in_, ne_in_, eq_ib_, ne_ib_, eq_is_, ne_is_, eq_sn_, ne_sn_, eq_sb_, ne_sb_, eq_si_, ne_si_, ne_ns_, c_mul, c_fdiv, c_mod, c_pow, c_adds, c_addl, c_ixs, lt600, lt60, lt1000, c_rng1, c_rng2, c_rng3, c_len, c_str, c_int, c_starts, c_indexS, c_sls, Nat.reduceLT, Int.reduceLT, Int.reduceLE, Int.reduceNeg, Int.reduceToNat, Int.reducePow, Int.reduceMul, Int.reduceAdd, Int.reduceSub, Bool.not_true, Bool.not_false, It.slots, E.slot, Nat.reduceBEq, Sc.d, Int.reduceEq, Nat.reduceEqDiff, f10, e3, h1', h2', h3']
            show _ = Out.ret ⟨.int v.toNat, .fz⟩ o
            rw [← hw']
          · have h3' : (numF v.toNat k == t) = false := beq_eq_false_iff_ne.2 h3
            rw [if_neg (fun x => h3 x.2.2)]
            simp only [List.length_cons, List.length_nil, Nat.reduceAdd, Nat.reduceLeDiff, if_true, List.map_cons, List.map_nil, Nat.reduceSub, List.replicate_succ, List.replicate_zero, List.cons_append, List.nil_append, List.all_cons, List.all_nil, Bool.and_true, Bool.true_and, Bool.and_self, decide_true, decide_false, Bool.false_or, Bool.or_false, List.contains_nil, if_false, Bool.false_eq_true, le_big, nal_fz, nal_fz', nal_ex', E.isHole, run_eq, reduceIte, cnd_bl, sl_0, sl_s, rd_val, rd_own, rd_ownd, pass_fz, pass_ex, pass_al, bind_ok, bind_bad, out_ok, out_bad, seq_next, seq_ret, seq_brk, seq_cnt, seq_bad, ofO_some, ofO_none, ev_var, ev_int, ev_str, ev_bl, ev_non, ev_glb, ev_op, ngI_int, ev_neg, nt_bl, ev_not, ev_and, ev_or, ev_one, ev_ife, oc_bl, ev_chain, ev_call, ev_bi, ev_isi, ev_mt, ev_ix, ev_sl, toI_int, optI_t, optI_f, ev_lst, ev_tup, ev_nil, ev_cons, ss_nil_, ss_cons_, s_set, s_own, s_par, s_ife, s_for, s_whl, s_drop, s_app, obE_s, loop_1, loop_m, s_ret, s_retN, s_nev, s_brk, s_cnt, s_pass, outO_some, outO_none, lk_nil, lk_cons, st1_0, st1_s, put_fz, put_ex, put_own, putV_nil, putV_cons, putA_nil, putA_cons, fin_next, fin_ret, fin_bad, nal_fz, nal_ex, nal_fz, nal_ex, add_ii, sub_ii, lt_ii, le_ii, gt_ii, ge_ii, is_n, isNot_n, eq_ss, ne_ss, eq_ii, ne_ii, eq_ns, in_ss, notIn_ss, kd_add_i, kd_add_s, kd_add_l, kd_mul_i, kd_sub, kd_fdiv, kd_mod, kd_pow, kd_lt, kd_le, kd_gt, kd_ge, kd_eq, kd_ne, kd_is, kd_isn, kd_in, kd_nin, ix_l, ix_t, ix_scr, map_some_, map_none_, bindO_some, bindO_none, it_any, it_A_t, it_A_s, it_A_l, it_L_fz, it_L_ex, it_L_al, it_r1, it_r2, it_r3, it_enum, it_zip, it_zip3, it_zipA, it_Z_s, it_Z_l, ev_lc, lc_fr_n, lc_fr_v, lc_free, lc_tgIx_1, lc_tgIx_m, obE_R, lc_optK_t, lc_optK_f, lc_noExc_ok, lc_noExc_bad, lc_noExc_exc, lcB_1, lcB_2, lcB_3, isO_own, isO_y, onO_eq, onO_s, bi_len_l, bi_len_scr, bi_len_t, bi_abs, bi_all, bi_any, bi_list, bi_tuple, ix_sl_l, ix_sl_scr, ix_d, ev_dlit, put_ownd, kd_mul_s, kd_mul_l, kd_mul_t, kd_inQ, kd_notInQ, kd_addS, kd_addL, isNon_n, isN_bl, isN_int, isN_str, isN_lst, isN_tup, ty_int_n, ty_int_b, ty_int_i, ty_int_s, ty_int_l, ty_int_t, ty_int_scr, ty_int_d, ty_str_n, ty_str_b, ty_str_i, ty_str_s, ty_str_l, ty_str_t, ty_str_scr, ty_str_d, ty_bool_n, ty_bool_b, ty_bool_i, ty_bool_s, ty_bool_l, ty_bool_t, ty_bool_scr, ty_bool_d, ty_list_n, ty_list_b, ty_list_i, ty_list_s, ty_list_l, ty_list_t, ty_list_scr, ty_list_d, ty_tuple_n, ty_tuple_b, ty_tuple_i, ty_tuple_s, ty_tuple_l, ty_tuple_t, ty_tuple_scr, ty_tuple_d, mtr_split, mtr_join, mtr_starts, mtr_lstrip, mtr_indexS, mtr_indexL, mtr_count, mtr_get1, mtr_get2, eq_nn_, ne_nn_, eq_nb_, ne_nb_, eq_ni_, ne_ni_, eq_bn_, ne_bn_, eq_bb_, ne_bb_, eq_bi_, ne_bi_, eq_bs_, ne_bs_, eq_in_, ne_in_, eq_ib_, ne_ib_, eq_is_, ne_is_, eq_sn_, ne_sn_, eq_sb_, ne_sb_, eq_si_, ne_si_, ne_ns_, c_mul, c_fdiv, c_mod, c_pow, c_adds, c_addl, c_ixs, lt600, lt60, lt1000, c_rng1, c_rng2, c_rng3, c_len, c_str, c_int, c_starts, c_indexS, c_sls, Nat.reduceLT, Int.reduceLT, Int.reduceLE, Int.reduceNeg, Int.reduceToNat, Int.reducePow, Int.reduceMul, Int.reduceAdd, Int.reduceSub, Bool.not_true, Bool.not_false, It.slots, E.slot, Nat.reduceBEq, Sc.d, Int.reduceEq, Nat.reduceEqDiff, f10, e3, h1', h2', h3']
            rfl
        · have h1' : decide ((1 : Int) ≤ v) = true := decide_eq_true (by omega)
          have h2' : decide ((v : Int) ≤ 3099) = false := decide_eq_false (by omega)
          rw [if_neg (fun x => h2 x.2.1)]
          simp only [List.length_cons, List.length_nil, Nat.reduceAdd, Nat.reduceLeDiff, if_true, List.map_cons, List.map_nil, Nat.reduceSub, List.replicate_succ, List.replicate_zero, List.cons_append, List.nil_append, List.all_cons, List.all_nil, Bool.and_true, Bool.true_and, Bool.and_self, decide_true, decide_false, Bool.false_or, Bool.or_false, List.contains_nil, if_false, Bool.false_eq_true, le_big, nal_fz, nal_fz', nal_ex', E.isHole, run_eq, reduceIte, cnd_bl, sl_0, sl_s, rd_val, rd_own, rd_ownd, pass_fz, pass_ex, pass_al, bind_ok, bind_bad, out_ok, out_bad, seq_next, seq_ret, seq_brk, seq_cnt, seq_bad, ofO_some, ofO_none, ev_var, ev_int, ev_str, ev_bl, ev_non, ev_glb, ev_op, ngI_int, ev_neg, nt_bl, ev_not, ev_and, ev_or, ev_one, ev_ife, oc_bl, ev_chain, ev_call, ev_bi, ev_isi, ev_mt, ev_ix, ev_sl, toI_int, optI_t, optI_f, ev_lst, ev_tup, ev_nil, ev_cons, ss_nil_, ss_cons_, s_set, s_own, s_par, s_ife, s_for, s_whl, s_drop, s_app, obE_s, loop_1, loop_m, s_ret, s_retN, s_nev, s_brk, s_cnt, s_pass, outO_some, outO_none, lk_nil, lk_cons, st1_0, st1_s, put_fz, put_ex, put_own, putV_nil, putV_cons, putA_nil, putA_cons, fin_next, fin_ret, fin_bad, nal_fz, nal_ex, nal_fz, nal_ex, add_ii, sub_ii, lt_ii, le_ii, gt_ii, ge_ii, is_n, isNot_n, eq_ss, ne_ss, eq_ii, ne_ii, eq_ns, in_ss, notIn_ss, kd_add_i, kd_add_s, kd_add_l, kd_mul_i, kd_sub, kd_fdiv, kd_mod, kd_pow, kd_lt, kd_le, kd_gt, kd_ge, kd_eq, kd_ne, kd_is, kd_isn, kd_in, kd_nin, ix_l, ix_t, ix_scr, map_some_, map_none_, bindO_some, bindO_none, it_any, it_A_t, it_A_s, it_A_l, it_L_fz, it_L_ex, it_L_al, it_r1, it_r2, it_r3, it_enum, it_zip, it_zip3, it_zipA, it_Z_s, it_Z_l, ev_lc, lc_fr_n, lc_fr_v, lc_free, lc_tgIx_1, lc_tgIx_m, obE_R, lc_optK_t, lc_optK_f, lc_noExc_ok, lc_noExc_bad, lc_noExc_exc, lcB_1, lcB_2, lcB_3, isO_own, isO_y, onO_eq, onO_s, bi_len_l, bi_len_scr, bi_len_t, bi_abs, bi_all, bi_any, bi_list, bi_tuple, ix_sl_l, ix_sl_scr, ix_d, ev_dlit, put_ownd, kd_mul_s, kd_mul_l, kd_mul_t, kd_inQ, kd_notInQ, kd_addS, kd_addL, isNon_n, isN_bl, isN_int, isN_str, isN_lst, isN_tup, ty_int_n, ty_int_b, ty_int_i, ty_int_s, ty_int_l, ty_int_t, ty_int_scr, ty_int_d, ty_str_n, ty_str_b, ty_str_i, ty_str_s, ty_str_l, ty_str_t, ty_str_scr, ty_str_d, ty_bool_n, ty_bool_b, ty_bool_i, ty_bool_s, ty_bool_l, ty_bool_t, ty_bool_scr, ty_bool_d, ty_list_n, ty_list_b, ty_list_i, ty_list_s, ty_list_l, ty_list_t, ty_list_scr, ty_list_d, ty_tuple_n, ty_tuple_b, ty_tuple_i, ty_tuple_s, ty_tuple_l, ty_tuple_t, ty_tuple_scr, ty_tuple_d, mtr_split, mtr_join, mtr_starts, mtr_lstrip, mtr_indexS, mtr_indexL, mtr_count, mtr_get1, mtr_get2, eq_nn_, ne_nn_, eq_nb_, ne_nb_, eq_ni_, ne_ni_, eq_bn_, ne_bn_, eq_bb_, ne_bb_, eq_bi_, ne_bi_, eq_bs_, ne_bs_, eq_in_, ne_in_, eq_ib_, ne_ib_, eq_is_, ne_is_, eq_sn_, ne_sn_, eq_sb_, ne_sb_, eq_si_, ne_si_, ne_ns_, c_mul, c_fdiv, c_mod, c_pow, c_adds, c_addl, c_ixs, lt600, lt60, lt1000, c_rng1, c_rng2, c_rng3, c_len, c_str, c_int, c_starts, c_indexS, c_sls, Nat.reduceLT, Int.reduceLT, Int.reduceLE, Int.reduceNeg, Int.reduceToNat, Int.reducePow, Int.reduceMul, Int.reduceAdd, Int.reduceSub, Bool.not_true, Bool.not_false, It.slots, E.slot, Nat.reduceBEq, Sc.d, Int.reduceEq, Nat.reduceEqDiff, h1', h2']
          rfl
      · have h1' : decide ((1 : Int) ≤ v) = false := decide_eq_false (by omega)
        rw [if_neg (fun x => h1 x.1)]
        simp only [List.length_cons, List.length_nil, Nat.reduceAdd, Nat.reduceLeDiff, if_true, List.map_cons, List.map_nil, Nat.reduceSub, List.replicate_succ, List.replicate_zero, List.cons_append, List.nil_append, List.all_cons, List.all_nil, Bool.and_true, Bool.true_and, Bool.and_self, decide_true, decide_false, Bool.false_or, Bool.or_false, List.contains_nil, if_false, Bool.false_eq_true, le_big, nal_fz, nal_fz', nal_ex', E.isHole, run_eq, reduceIte, cnd_bl, sl_0, sl_s, rd_val, rd_own, rd_ownd, pass_fz, pass_ex, pass_al, bind_ok, bind_bad, out_ok, out_bad, seq_next, seq_ret, seq_brk, seq_cnt, seq_bad, ofO_some, ofO_none, ev_var, ev_int, ev_str, ev_bl, ev_non, ev_glb, ev_op, ngI_int, ev_neg, nt_bl, ev_not, ev_and, ev_or, ev_one, ev_ife, oc_bl, ev_chain, ev_call, ev_bi, ev_isi, ev_mt, ev_ix, ev_sl, toI_int, optI_t, optI_f, ev_lst, ev_tup, ev_nil, ev_cons, ss_nil_, ss_cons_, s_set, s_own, s_par, s_ife, s_for, s_whl, s_drop, s_app, obE_s, loop_1, loop_m, s_ret, s_retN, s_nev, s_brk, s_cnt, s_pass, outO_some, outO_none, lk_nil, lk_cons, st1_0, st1_s, put_fz, put_ex, put_own, putV_nil, putV_cons, putA_nil, putA_cons, fin_next, fin_ret, fin_bad, nal_fz, nal_ex, nal_fz, nal_ex, add_ii, sub_ii, lt_ii, le_ii, gt_ii, ge_ii, is_n, isNot_n, eq_ss, ne_ss, eq_ii, ne_ii, eq_ns, in_ss, notIn_ss, kd_add_i, kd_add_s, kd_add_l, kd_mul_i, kd_sub, kd_fdiv, kd_mod, kd_pow, kd_lt, kd_le, kd_gt, kd_ge, kd_eq, kd_ne, kd_is, kd_isn, kd_in, kd_nin, ix_l, ix_t, ix_scr, map_some_, map_none_, bindO_some, bindO_none, it_any, it_A_t, it_A_s, it_A_l, it_L_fz, it_L_ex, it_L_al, it_r1, it_r2, it_r3, it_enum, it_zip, it_zip3, it_zipA, it_Z_s, it_Z_l, ev_lc, lc_fr_n, lc_fr_v, lc_free, lc_tgIx_1, lc_tgIx_m, obE_R, lc_optK_t, lc_optK_f, lc_noExc_ok, lc_noExc_bad, lc_noExc_exc, lcB_1, lcB_2, lcB_3, isO_own, isO_y, onO_eq, onO_s, bi_len_l, bi_len_scr, bi_len_t, bi_abs, bi_all, bi_any, bi_list, bi_tuple, ix_sl_l, ix_sl_scr, ix_d, ev_dlit, put_ownd, kd_mul_s, kd_mul_l, kd_mul_t, kd_inQ, kd_notInQ, kd_addS, kd_addL, isNon_n, isN_bl, isN_int, isN_str, isN_lst, isN_tup, ty_int_n, ty_int_b, ty_int_i, ty_int_s, ty_int_l, ty_int_t, ty_int_scr, ty_int_d, ty_str_n, ty_str_b, ty_str_i, ty_str_s, ty_str_l, ty_str_t, ty_str_scr, ty_str_d, ty_bool_n, ty_bool_b, ty_bool_i, ty_bool_s, ty_bool_l, ty_bool_t, ty_bool_scr, ty_bool_d, ty_list_n, ty_list_b, ty_list_i, ty_list_s, ty_list_l, ty_list_t, ty_list_scr, ty_list_d, ty_tuple_n, ty_tuple_b, ty_tuple_i, ty_tuple_s, ty_tuple_l, ty_tuple_t, ty_tuple_scr, ty_tuple_d, mtr_split, mtr_join, mtr_starts, mtr_lstrip, mtr_indexS, mtr_indexL, mtr_count, mtr_get1, mtr_get2, eq_nn_, ne_nn_, eq_nb_, ne_nb_, eq_ni_, ne_ni_, eq_bn_, ne_bn_, eq_bb_, ne_bb_, eq_bi_, ne_bi_, eq_bs_, ne_bs_, eq_in_, ne_in_, eq_ib_, ne_ib_, eq_is_, ne_is_, eq_sn_, ne_sn_, eq_sb_, ne_sb_, eq_si_, ne_si_, ne_ns_, c_mul, c_fdiv, c_mod, c_pow, c_adds, c_addl, c_ixs, lt600, lt60, lt1000, c_rng1, c_rng2, c_rng3, c_len, c_str, c_int, c_starts, c_indexS, c_sls, Nat.reduceLT, Int.reduceLT, Int.reduceLE, Int.reduceNeg, Int.reduceToNat, Int.reducePow, Int.reduceMul, Int.reduceAdd, Int.reduceSub, Bool.not_true, Bool.not_false, It.slots, E.slot, Nat.reduceBEq, Sc.d, Int.reduceEq, Nat.reduceEqDiff, h1']
        rfl
    clear hT
    have hle : Bi.len.ev [.str t] = some ⟨.int t.length, .fz⟩ := c_len ht
    have hb : decide (List.length (List.map (fun c => D.str [c]) t) ≤ bigL) = true := decide_eq_true (by rw [List.length_map]; exact ht)
    have hl := fun s => lc_in G o 3 s t [.val ⟨.str t, .fz⟩, .val ⟨.str k, .fz⟩, .val ⟨.int 0, .fz⟩, .none, .none, .none, .none] (by simp)
    have hd : ([48, 49, 50, 51, 52, 53, 54, 55, 56, 57] : Txt) = dig := rfl
    have hab : ([97, 98, 99, 100, 101, 102, 103, 104, 105, 106, 107, 108, 109, 110, 111, 112, 113, 114, 115, 116, 117, 118, 119, 120, 121, 122] : Txt) = abc := rfl
    have hro : ([105, 118, 120, 108, 99, 100, 109] : Txt) = romS := rfl
    rcases hk with rfl | rfl | rfl
    · have e : lawValN t kF = if t = [] ∨ 4 < t.length ∨ (t.all fun c => dig.contains c) = false then none else some (numT t : Int) := by
        unfold lawValN; rw [if_pos rfl]
      unfold lawVal
      rw [e]
      by_cases h1 : t = []
      · rw [if_pos (Or.inl h1)]
        subst h1
        simp only [List.length_cons, List.length_nil, Nat.reduceAdd, Nat.reduceLeDiff, if_true, List.map_cons, List.map_nil, Nat.reduceSub, List.replicate_succ, List.replicate_zero, List.cons_append, List.nil_append, List.all_cons, List.all_nil, Bool.and_true, Bool.true_and, Bool.and_self, decide_true, decide_false, Bool.false_or, Bool.or_false, List.contains_nil, if_false, Bool.false_eq_true, le_big, nal_fz, nal_fz', nal_ex', E.isHole, run_eq, reduceIte, cnd_bl, sl_0, sl_s, rd_val, rd_own, rd_ownd, pass_fz, pass_ex, pass_al, bind_ok, bind_bad, out_ok, out_bad, seq_next, seq_ret, seq_brk, seq_cnt, seq_bad, ofO_some, ofO_none, ev_var, ev_int, ev_str, ev_bl, ev_non, ev_glb, ev_op, ngI_int, ev_neg, nt_bl, ev_not, ev_and, ev_or, ev_one, ev_ife, oc_bl, ev_chain, ev_call, ev_bi, ev_isi, ev_mt, ev_ix, ev_sl, toI_int, optI_t, optI_f, ev_lst, ev_tup, ev_nil, ev_cons, ss_nil_, ss_cons_, s_set, s_own, s_par, s_ife, s_for, s_whl, s_drop, s_app, obE_s, loop_1, loop_m, s_ret, s_retN, s_nev, s_brk, s_cnt, s_pass, outO_some, outO_none, lk_nil, lk_cons, st1_0, st1_s, put_fz, put_ex, put_own, putV_nil, putV_cons, putA_nil, putA_cons, fin_next, fin_ret, fin_bad, nal_fz, nal_ex, nal_fz, nal_ex, add_ii, sub_ii, lt_ii, le_ii, gt_ii, ge_ii, is_n, isNot_n, eq_ss, ne_ss, eq_ii, ne_ii, eq_ns, in_ss, notIn_ss, kd_add_i, kd_add_s, kd_add_l, kd_mul_i, kd_sub, kd_fdiv, kd_mod, kd_pow, kd_lt, kd_le, kd_gt, kd_ge, kd_eq, kd_ne, kd_is, kd_isn, kd_in, kd_nin, ix_l, ix_t, ix_scr, map_some_, map_none_, bindO_some, bindO_none, it_any, it_A_t, it_A_s, it_A_l, it_L_fz, it_L_ex, it_L_al, it_r1, it_r2, it_r3, it_enum, it_zip, it_zip3, it_zipA, it_Z_s, it_Z_l, ev_lc, lc_fr_n, lc_fr_v, lc_free, lc_tgIx_1, lc_tgIx_m, obE_R, lc_optK_t, lc_optK_f, lc_noExc_ok, lc_noExc_bad, lc_noExc_exc, lcB_1, lcB_2, lcB_3, isO_own, isO_y, onO_eq, onO_s, bi_len_l, bi_len_scr, bi_len_t, bi_abs, bi_all, bi_any, bi_list, bi_tuple, ix_sl_l, ix_sl_scr, ix_d, ev_dlit, put_ownd, kd_mul_s, kd_mul_l, kd_mul_t, kd_inQ, kd_notInQ, kd_addS, kd_addL, isNon_n, isN_bl, isN_int, isN_str, isN_lst, isN_tup, ty_int_n, ty_int_b, ty_int_i, ty_int_s, ty_int_l, ty_int_t, ty_int_scr, ty_int_d, ty_str_n, ty_str_b, ty_str_i, ty_str_s, ty_str_l, ty_str_t, ty_str_scr, ty_str_d, ty_bool_n, ty_bool_b, ty_bool_i, ty_bool_s, ty_bool_l, ty_bool_t, ty_bool_scr, ty_bool_d, ty_list_n, ty_list_b, ty_list_i, ty_list_s, ty_list_l, ty_list_t, ty_list_scr, ty_list_d, ty_tuple_n, ty_tuple_b, ty_tuple_i, ty_tuple_s, ty_tuple_l, ty_tuple_t, ty_tuple_scr, ty_tuple_d, mtr_split, mtr_join, mtr_starts, mtr_lstrip, mtr_indexS, mtr_indexL, mtr_count, mtr_get1, mtr_get2, eq_nn_, ne_nn_, eq_nb_, ne_nb_, eq_ni_, ne_ni_, eq_bn_, ne_bn_, eq_bb_, ne_bb_, eq_bi_, ne_bi_, eq_bs_, ne_bs_, eq_in_, ne_in_, eq_ib_, ne_ib_, eq_is_, ne_is_, eq_sn_, ne_sn_, eq_sb_, ne_sb_, eq_si_, ne_si_, ne_ns_, c_mul, c_fdiv, c_mod, c_pow, c_adds, c_addl, c_ixs, lt600, lt60, lt1000, c_rng1, c_rng2, c_rng3, c_len, c_str, c_int, c_starts, c_indexS, c_sls, Nat.reduceLT, Int.reduceLT, Int.reduceLE, Int.reduceNeg, Int.reduceToNat, Int.reducePow, Int.reduceMul, Int.reduceAdd, Int.reduceSub, Bool.not_true, Bool.not_false, It.slots, E.slot, Nat.reduceBEq, Sc.d, Int.reduceEq, Nat.reduceEqDiff, kk_FF, show (([] : Txt) == []) = true from rfl]
        rfl
      · have h1' : (t == []) = false := by cases t <;> first | exact absurd rfl h1 | rfl
        by_cases h2 : 4 < t.length
        · rw [if_pos (Or.inr (Or.inl h2))]
          have h2' : decide ((4 : Int) < t.length) = true := decide_eq_true (by omega)
          simp only [List.length_cons, List.length_nil, Nat.reduceAdd, Nat.reduceLeDiff, if_true, List.map_cons, List.map_nil, Nat.reduceSub, List.replicate_succ, List.replicate_zero, List.cons_append, List.nil_append, List.all_cons, List.all_nil, Bool.and_true, Bool.true_and, Bool.and_self, decide_true, decide_false, Bool.false_or, Bool.or_false, List.contains_nil, if_false, Bool.false_eq_true, le_big, nal_fz, nal_fz', nal_ex', E.isHole, run_eq, reduceIte, cnd_bl, sl_0, sl_s, rd_val, rd_own, rd_ownd, pass_fz, pass_ex, pass_al, bind_ok, bind_bad, out_ok, out_bad, seq_next, seq_ret, seq_brk, seq_cnt, seq_bad, ofO_some, ofO_none, ev_var, ev_int, ev_str, ev_bl, ev_non, ev_glb, ev_op, ngI_int, ev_neg, nt_bl, ev_not, ev_and, ev_or, ev_one, ev_ife, oc_bl, ev_chain, ev_call, ev_bi, ev_isi, ev_mt, ev_ix, ev_sl, toI_int, optI_t, optI_f, ev_lst, ev_tup, ev_nil, ev_cons, ss_nil_, ss_cons_, s_set, s_own, s_par, s_ife, s_for, s_whl, s_drop, s_app, obE_s, loop_1, loop_m, s_ret, s_retN, s_nev, s_brk, s_cnt, s_pass, outO_some, outO_none, lk_nil, lk_cons, st1_0, st1_s, put_fz, put_ex, put_own, putV_nil, putV_cons, putA_nil, putA_cons, fin_next, fin_ret, fin_bad, nal_fz, nal_ex, nal_fz, nal_ex, add_ii, sub_ii, lt_ii, le_ii, gt_ii, ge_ii, is_n, isNot_n, eq_ss, ne_ss, eq_ii, ne_ii, eq_ns, in_ss, notIn_ss, kd_add_i, kd_add_s, kd_add_l, kd_mul_i, kd_sub, kd_fdiv, kd_mod, kd_pow, kd_lt, kd_le, kd_gt, kd_ge, kd_eq, kd_ne, kd_is, kd_isn, kd_in, kd_nin, ix_l, ix_t, ix_scr, map_some_, map_none_, bindO_some, bindO_none, it_any, it_A_t, it_A_s, it_A_l, it_L_fz, it_L_ex, it_L_al, it_r1, it_r2, it_r3, it_enum, it_zip, it_zip3, it_zipA, it_Z_s, it_Z_l, ev_lc, lc_fr_n, lc_fr_v, lc_free, lc_tgIx_1, lc_tgIx_m, obE_R, lc_optK_t, lc_optK_f, lc_noExc_ok, lc_noExc_bad, lc_noExc_exc, lcB_1, lcB_2, lcB_3, isO_own, isO_y, onO_eq, onO_s, bi_len_l, bi_len_scr, bi_len_t, bi_abs, bi_all, bi_any, bi_list, bi_tuple, ix_sl_l, ix_sl_scr, ix_d, ev_dlit, put_ownd, kd_mul_s, kd_mul_l, kd_mul_t, kd_inQ, kd_notInQ, kd_addS, kd_addL, isNon_n, isN_bl, isN_int, isN_str, isN_lst, isN_tup, ty_int_n, ty_int_b, ty_int_i, ty_int_s, ty_int_l, ty_int_t, ty_int_scr, ty_int_d, ty_str_n, ty_str_b, ty_str_i, ty_str_s, ty_str_l, ty_str_t, ty_str_scr, ty_str_d, ty_bool_n, ty_bool_b, ty_bool_i, ty_bool_s, ty_bool_l, ty_bool_t, ty_bool_scr, ty_bool_d, ty_list_n, ty_list_b, ty_list_i, ty_list_s, ty_list_l, ty_list_t, ty_list_scr, ty_list_d, ty_tuple_n, ty_tuple_b, ty_tuple_i, ty_tuple_s, ty_tuple_l, ty_tuple_t, ty_tuple_scr, ty_tuple_d, mtr_split, mtr_join, mtr_starts, mtr_lstrip, mtr_indexS, mtr_indexL, mtr_count, mtr_get1, mtr_get2, eq_nn_, ne_nn_, eq_nb_, ne_nb_, eq_ni_, ne_ni_, eq_bn_, ne_bn_, eq_bb_, ne_bb_, eq_bi_, ne_bi_, eq_bs_, ne_bs_, eq_in_, ne_in_, eq_ib_, ne_ib_, eq_is_, ne_is_, eq_sn_, ne_sn_, eq_sb_, ne_sb_, eq_si_, ne_si_, ne_ns_, c_mul, c_fdiv, c_mod, c_pow, c_adds, c_addl, c_ixs, lt600, lt60, lt1000, c_rng1, c_rng2, c_rng3, c_len, c_str, c_int, c_starts, c_indexS, c_sls, Nat.reduceLT, Int.reduceLT, Int.reduceLE, Int.reduceNeg, Int.reduceToNat, Int.reducePow, Int.reduceMul, Int.reduceAdd, Int.reduceSub, Bool.not_true, Bool.not_false, It.slots, E.slot, Nat.reduceBEq, Sc.d, Int.reduceEq, Nat.reduceEqDiff, kk_FF, h1', hle, h2']
          rfl
        · have h2' : decide ((4 : Int) < t.length) = false := decide_eq_false (by omega)
          by_cases h3 : (t.all fun c => dig.contains c) = false
          · rw [if_pos (Or.inr (Or.inr h3))]
            simp only [List.length_cons, List.length_nil, Nat.reduceAdd, Nat.reduceLeDiff, if_true, List.map_cons, List.map_nil, Nat.reduceSub, List.replicate_succ, List.replicate_zero, List.cons_append, List.nil_append, List.all_cons, List.all_nil, Bool.and_true, Bool.true_and, Bool.and_self, decide_true, decide_false, Bool.false_or, Bool.or_false, List.contains_nil, if_false, Bool.false_eq_true, le_big, nal_fz, nal_fz', nal_ex', E.isHole, run_eq, reduceIte, cnd_bl, sl_0, sl_s, rd_val, rd_own, rd_ownd, pass_fz, pass_ex, pass_al, bind_ok, bind_bad, out_ok, out_bad, seq_next, seq_ret, seq_brk, seq_cnt, seq_bad, ofO_some, ofO_none, ev_var, ev_int, ev_str, ev_bl, ev_non, ev_glb, ev_op, ngI_int, ev_neg, nt_bl, ev_not, ev_and, ev_or, ev_one, ev_ife, oc_bl, ev_chain, ev_call, ev_bi, ev_isi, ev_mt, ev_ix, ev_sl, toI_int, optI_t, optI_f, ev_lst, ev_tup, ev_nil, ev_cons, ss_nil_, ss_cons_, s_set, s_own, s_par, s_ife, s_for, s_whl, s_drop, s_app, obE_s, loop_1, loop_m, s_ret, s_retN, s_nev, s_brk, s_cnt, s_pass, outO_some, outO_none, lk_nil, lk_cons, st1_0, st1_s, put_fz, put_ex, put_own, putV_nil, putV_cons, putA_nil, putA_cons, fin_next, fin_ret, fin_bad, nal_fz, nal_ex, nal_fz, nal_ex, add_ii, sub_ii, lt_ii, le_ii, gt_ii, ge_ii, is_n, isNot_n, eq_ss, ne_ss, eq_ii, ne_ii, eq_ns, in_ss, notIn_ss, kd_add_i, kd_add_s, kd_add_l, kd_mul_i, kd_sub, kd_fdiv, kd_mod, kd_pow, kd_lt, kd_le, kd_gt, kd_ge, kd_eq, kd_ne, kd_is, kd_isn, kd_in, kd_nin, ix_l, ix_t, ix_scr, map_some_, map_none_, bindO_some, bindO_none, it_any, it_A_t, it_A_s, it_A_l, it_L_fz, it_L_ex, it_L_al, it_r1, it_r2, it_r3, it_enum, it_zip, it_zip3, it_zipA, it_Z_s, it_Z_l, ev_lc, lc_fr_n, lc_fr_v, lc_free, lc_tgIx_1, lc_tgIx_m, obE_R, lc_optK_t, lc_optK_f, lc_noExc_ok, lc_noExc_bad, lc_noExc_exc, lcB_1, lcB_2, lcB_3, isO_own, isO_y, onO_eq, onO_s, bi_len_l, bi_len_scr, bi_len_t, bi_abs, bi_all, bi_any, bi_list, bi_tuple, ix_sl_l, ix_sl_scr, ix_d, ev_dlit, put_ownd, kd_mul_s, kd_mul_l, kd_mul_t, kd_inQ, kd_notInQ, kd_addS, kd_addL, isNon_n, isN_bl, isN_int, isN_str, isN_lst, isN_tup, ty_int_n, ty_int_b, ty_int_i, ty_int_s, ty_int_l, ty_int_t, ty_int_scr, ty_int_d, ty_str_n, ty_str_b, ty_str_i, ty_str_s, ty_str_l, ty_str_t, ty_str_scr, ty_str_d, ty_bool_n, ty_bool_b, ty_bool_i, ty_bool_s, ty_bool_l, ty_bool_t, ty_bool_scr, ty_bool_d, ty_list_n, ty_list_b, ty_list_i, ty_list_s, ty_list_l, ty_list_t, ty_list_scr, ty_list_d, ty_tuple_n, ty_tuple_b, ty_tuple_i, ty_tuple_s, ty_tuple_l, ty_tuple_t, ty_tuple_scr, ty_tuple_d, mtr_split, mtr_join, mtr_starts, mtr_lstrip, mtr_indexS, mtr_indexL, mtr_count, mtr_get1, mtr_get2, eq_nn_, ne_nn_, eq_nb_, ne_nb_, eq_ni_, ne_ni_, eq_bn_, ne_bn_, eq_bb_, ne_bb_, eq_bi_, ne_bi_, eq_bs_, ne_bs_, eq_in_, ne_in_, eq_ib_, ne_ib_, eq_is_, ne_is_, eq_sn_, ne_sn_, eq_sb_, ne_sb_, eq_si_, ne_si_, ne_ns_, c_mul, c_fdiv, c_mod, c_pow, c_adds, c_addl, c_ixs, lt600, lt60, lt1000, c_rng1, c_rng2, c_rng3, c_len, c_str, c_int, c_starts, c_indexS, c_sls, Nat.reduceLT, Int.reduceLT, Int.reduceLE, Int.reduceNeg, Int.reduceToNat, Int.reducePow, Int.reduceMul, Int.reduceAdd, Int.reduceSub, Bool.not_true, Bool.not_false, It.slots, E.slot, Nat.reduceBEq, Sc.d, Int.reduceEq, Nat.reduceEqDiff, kk_FF, h1', hle, h2', hb, hd, hl, bi_bls, all_id, h3]
            rfl
          · rw [if_neg (by rintro (x | x | x); exact h1 x; exact h2 x; exact h3 x)]
            have h3 := all_t h3
            have e5 : Bi.int.ev [.str t] = some ⟨.int (numT t), .fz⟩ := c_int (by omega) h1 (by rw [← figs_all]; exact h3)
            simp only [List.length_cons, List.length_nil, Nat.reduceAdd, Nat.reduceLeDiff, if_true, List.map_cons, List.map_nil, Nat.reduceSub, List.replicate_succ, List.replicate_zero, List.cons_append, List.nil_append, List.all_cons, List.all_nil, Bool.and_true, Bool.true_and, Bool.and_self, decide_true, decide_false, Bool.false_or, Bool.or_false, List.contains_nil, if_false, Bool.false_eq_true, le_big, nal_fz, nal_fz', nal_ex', E.isHole, run_eq, reduceIte, cnd_bl, sl_0, sl_s, rd_val, rd_own, rd_ownd, pass_fz, pass_ex, pass_al, bind_ok, bind_bad, out_ok, out_bad, seq_next, seq_ret, seq_brk, seq_cnt, seq_bad, ofO_some, ofO_none, ev_var, ev_int, ev_str, ev_bl, ev_non, ev_glb, ev_op, ngI_int, ev_neg, nt_bl, ev_not, ev_and, ev_or, ev_one, ev_ife, oc_bl, ev_chain, ev_call, ev_bi, ev_isi, ev_mt, ev_ix, ev_sl, toI_int, optI_t, optI_f, ev_lst, ev_tup, ev_nil, ev_cons, ss_nil_, ss_cons_, s_set, s_own, s_par, s_ife, s_for, s_whl, s_drop, s_app, obE_s, loop_1, loop_m, s_ret, s_retN, s_nev, s_brk, s_cnt, s_pass, outO_some, outO_none, lk_nil, lk_cons, st1_0, st1_s, put_fz, put_ex, put_own, putV_nil, putV_cons, putA_nil, putA_cons, fin_next, fin_ret, fin_bad, nal_fz, nal_ex, nal_fz, nal_ex, add_ii, sub_ii, lt_ii, le_ii, gt_ii, ge_ii, is_n, isNot_n, eq_ss, ne_ss, eq_ii, ne_ii, eq_ns, in_ss, notIn_ss, kd_add_i, kd_add_s, kd_add_l, kd_mul_i, kd_sub, kd_fdiv, kd_mod, kd_pow, kd_lt, kd_le, kd_gt, kd_ge, kd_eq, kd_ne, kd_is, kd_isn, kd_in, kd_nin, ix_l, ix_t, ix_scr, map_some_, map_none_, bindO_some, bindO_none, it_any, it_A_t, it_A_s, it_A_l, it_L_fz, it_L_ex, it_L_al, it_r1, it_r2, it_r3, it_enum, it_zip, it_zip3, it_zipA, it_Z_s, it_Z_l, ev_lc, lc_fr_n, lc_fr_v, lc_free, lc_tgIx_1, lc_tgIx_m, obE_R, lc_optK_t, lc_optK_f, lc_noExc_ok, lc_noExc_bad, lc_noExc_exc, lcB_1, lcB_2, lcB_3, isO_own, isO_y, onO_eq, onO_s, bi_len_l, bi_len_scr, bi_len_t, bi_abs, bi_all, bi_any, bi_list, bi_tuple, ix_sl_l, ix_sl_scr, ix_d, ev_dlit, put_ownd, kd_mul_s, kd_mul_l, kd_mul_t, kd_inQ, kd_notInQ, kd_addS, kd_addL, isNon_n, isN_bl, isN_int, isN_str, isN_lst, isN_tup, ty_int_n, ty_int_b, ty_int_i, ty_int_s, ty_int_l, ty_int_t, ty_int_scr, ty_int_d, ty_str_n, ty_str_b, ty_str_i, ty_str_s, ty_str_l, ty_str_t, ty_str_scr, ty_str_d, ty_bool_n, ty_bool_b, ty_bool_i, ty_bool_s, ty_bool_l, ty_bool_t, ty_bool_scr, ty_bool_d, ty_list_n, ty_list_b, ty_list_i, ty_list_s, ty_list_l, ty_list_t, ty_list_scr, ty_list_d, ty_tuple_n, ty_tuple_b, ty_tuple_i, ty_tuple_s, ty_tuple_l, ty_tuple_t, ty_tuple_scr, ty_tuple_d, mtr_split, mtr_join, mtr_starts, mtr_lstrip, mtr_indexS, mtr_indexL, mtr_count, mtr_get1, mtr_get2, eq_nn_, ne_nn_, eq_nb_, ne_nb_, eq_ni_, ne_ni_, eq_bn_, ne_bn_, eq_bb_, ne_bb_, eq_bi_, ne_bi_, eq_bs_, ne_bs_, eq_in_, ne_in_, eq_ib_, ne_ib_, eq_is_, ne_is_, eq_sn_, ne_sn_, eq_sb_, ne_sb_, eq_si_, ne_si_, ne_ns_, c_mul, c_fdiv, c_mod, c_pow, c_adds, c_addl, c_ixs, lt600, lt60, lt1000, c_rng1, c_rng2, c_rng3, c_len, c_str, c_int, c_starts, c_indexS, c_sls, Nat.reduceLT, Int.reduceLT, Int.reduceLE, Int.reduceNeg, Int.reduceToNat, Int.reducePow, Int.reduceMul, Int.reduceAdd, Int.reduceSub, Bool.not_true, Bool.not_false, It.slots, E.slot, Nat.reduceBEq, Sc.d, Int.reduceEq, Nat.reduceEqDiff, kk_FF, h1', hle, h2', hb, hd, hl, bi_bls, all_id, h3, e5, hend]
            rfl
    · have e : lawValN t kL = if 4 < t.length ∨ (t.all fun c => abc.contains c) = false then none else some (lawLV t 0) := by
        unfold lawValN; rw [if_neg (by decide), if_pos rfl]
      unfold lawVal
      rw [e]
      by_cases h2 : 4 < t.length
      · rw [if_pos (Or.inl h2)]
        have h2' : decide ((4 : Int) < t.length) = true := decide_eq_true (by omega)
        simp only [List.length_cons, List.length_nil, Nat.reduceAdd, Nat.reduceLeDiff, if_true, List.map_cons, List.map_nil, Nat.reduceSub, List.replicate_succ, List.replicate_zero, List.cons_append, List.nil_append, List.all_cons, List.all_nil, Bool.and_true, Bool.true_and, Bool.and_self, decide_true, decide_false, Bool.false_or, Bool.or_false, List.contains_nil, if_false, Bool.false_eq_true, le_big, nal_fz, nal_fz', nal_ex', E.isHole, run_eq, reduceIte, cnd_bl, sl_0, sl_s, rd_val, rd_own, rd_ownd, pass_fz, pass_ex, pass_al, bind_ok, bind_bad, out_ok, out_bad, seq_next, seq_ret, seq_brk, seq_cnt, seq_bad, ofO_some, ofO_none, ev_var, ev_int, ev_str, ev_bl, ev_non, ev_glb, ev_op, ngI_int, ev_neg, nt_bl, ev_not, ev_and, ev_or, ev_one, ev_ife, oc_bl, ev_chain, ev_call, ev_bi, ev_isi, ev_mt, ev_ix, ev_sl, toI_int, optI_t, optI_f, ev_lst, ev_tup, ev_nil, ev_cons, ss_nil_, ss_cons_, s_set, s_own, s_par, s_ife, s_for, s_whl, s_drop, s_app, obE_s, loop_1, loop_m, s_ret, s_retN, s_nev, s_brk, s_cnt, s_pass, outO_some, outO_none, lk_nil, lk_cons, st1_0, st1_s, put_fz, put_ex, put_own, putV_nil, putV_cons, putA_nil, putA_cons, fin_next, fin_ret, fin_bad, nal_fz, nal_ex, nal_fz, nal_ex, add_ii, sub_ii, lt_ii, le_ii, gt_ii, ge_ii, is_n, isNot_n, eq_ss, ne_ss, eq_ii, ne_ii, eq_ns, in_ss, notIn_ss, kd_add_i, kd_add_s, kd_add_l, kd_mul_i, kd_sub, kd_fdiv, kd_mod, kd_pow, kd_lt, kd_le, kd_gt, kd_ge, kd_eq, kd_ne, kd_is, kd_isn, kd_in, kd_nin, ix_l, ix_t, ix_scr, map_some_, map_none_, bindO_some, bindO_none, it_any, it_A_t, it_A_s, it_A_l, it_L_fz, it_L_ex, it_L_al, it_r1, it_r2, it_r3, it_enum, it_zip, it_zip3, it_zipA, it_Z_s, it_Z_l, ev_lc, lc_fr_n, lc_fr_v, lc_free, lc_tgIx_1, lc_tgIx_m, obE_R, lc_optK_t, lc_optK_f, lc_noExc_ok, lc_noExc_bad, lc_noExc_exc, lcB_1, lcB_2, lcB_3, isO_own, isO_y, onO_eq, onO_s, bi_len_l, bi_len_scr, bi_len_t, bi_abs, bi_all, bi_any, bi_list, bi_tuple, ix_sl_l, ix_sl_scr, ix_d, ev_dlit, put_ownd, kd_mul_s, kd_mul_l, kd_mul_t, kd_inQ, kd_notInQ, kd_addS, kd_addL, isNon_n, isN_bl, isN_int, isN_str, isN_lst, isN_tup, ty_int_n, ty_int_b, ty_int_i, ty_int_s, ty_int_l, ty_int_t, ty_int_scr, ty_int_d, ty_str_n, ty_str_b, ty_str_i, ty_str_s, ty_str_l, ty_str_t, ty_str_scr, ty_str_d, ty_bool_n, ty_bool_b, ty_bool_i, ty_bool_s, ty_bool_l, ty_bool_t, ty_bool_scr, ty_bool_d, ty_list_n, ty_list_b, ty_list_i, ty_list_s, ty_list_l, ty_list_t, ty_list_scr, ty_list_d, ty_tuple_n, ty_tuple_b, ty_tuple_i, ty_tuple_s, ty_tuple_l, ty_tuple_t, ty_tuple_scr, ty_tuple_d, mtr_split, mtr_join, mtr_starts, mtr_lstrip, mtr_indexS, mtr_indexL, mtr_count, mtr_get1, mtr_get2, eq_nn_, ne_nn_, eq_nb_, ne_nb_, eq_ni_, ne_ni_, eq_bn_, ne_bn_, eq_bb_, ne_bb_, eq_bi_, ne_bi_, eq_bs_, ne_bs_, eq_in_, ne_in_, eq_ib_, ne_ib_, eq_is_, ne_is_, eq_sn_, ne_sn_, eq_sb_, ne_sb_, eq_si_, ne_si_, ne_ns_, c_mul, c_fdiv, c_mod, c_pow, c_adds, c_addl, c_ixs, lt600, lt60, lt1000, c_rng1, c_rng2, c_rng3, c_len, c_str, c_int, c_starts, c_indexS, c_sls, Nat.reduceLT, Int.reduceLT, Int.reduceLE, Int.reduceNeg, Int.reduceToNat, Int.reducePow, Int.reduceMul, Int.reduceAdd, Int.reduceSub, Bool.not_true, Bool.not_false, It.slots, E.slot, Nat.reduceBEq, Sc.d, Int.reduceEq, Nat.reduceEqDiff, kk_LF, kk_LL, hle, h2']
        rfl
      · have h2' : decide ((4 : Int) < t.length) = false := decide_eq_false (by omega)
        by_cases h3 : (t.all fun c => abc.contains c) = false
        · rw [if_pos (Or.inr h3)]
          simp only [List.length_cons, List.length_nil, Nat.reduceAdd, Nat.reduceLeDiff, if_true, List.map_cons, List.map_nil, Nat.reduceSub, List.replicate_succ, List.replicate_zero, List.cons_append, List.nil_append, List.all_cons, List.all_nil, Bool.and_true, Bool.true_and, Bool.and_self, decide_true, decide_false, Bool.false_or, Bool.or_false, List.contains_nil, if_false, Bool.false_eq_true, le_big, nal_fz, nal_fz', nal_ex', E.isHole, run_eq, reduceIte, cnd_bl, sl_0, sl_s, rd_val, rd_own, rd_ownd, pass_fz, pass_ex, pass_al, bind_ok, bind_bad, out_ok, out_bad, seq_next, seq_ret, seq_brk, seq_cnt, seq_bad, ofO_some, ofO_none, ev_var, ev_int, ev_str, ev_bl, ev_non, ev_glb, ev_op, ngI_int, ev_neg, nt_bl, ev_not, ev_and, ev_or, ev_one, ev_ife, oc_bl, ev_chain, ev_call, ev_bi, ev_isi, ev_mt, ev_ix, ev_sl, toI_int, optI_t, optI_f, ev_lst, ev_tup, ev_nil, ev_cons, ss_nil_, ss_cons_, s_set, s_own, s_par, s_ife, s_for, s_whl, s_drop, s_app, obE_s, loop_1, loop_m, s_ret, s_retN, s_nev, s_brk, s_cnt, s_pass, outO_some, outO_none, lk_nil, lk_cons, st1_0, st1_s, put_fz, put_ex, put_own, putV_nil, putV_cons, putA_nil, putA_cons, fin_next, fin_ret, fin_bad, nal_fz, nal_ex, nal_fz, nal_ex, add_ii, sub_ii, lt_ii, le_ii, gt_ii, ge_ii, is_n, isNot_n, eq_ss, ne_ss, eq_ii, ne_ii, eq_ns, in_ss, notIn_ss, kd_add_i, kd_add_s, kd_add_l, kd_mul_i, kd_sub, kd_fdiv, kd_mod, kd_pow, kd_lt, kd_le, kd_gt, kd_ge, kd_eq, kd_ne, kd_is, kd_isn, kd_in, kd_nin, ix_l, ix_t, ix_scr, map_some_, map_none_, bindO_some, bindO_none, it_any, it_A_t, it_A_s, it_A_l, it_L_fz, it_L_ex, it_L_al, it_r1, it_r2, it_r3, it_enum, it_zip, it_zip3, it_zipA, it_Z_s, it_Z_l, ev_lc, lc_fr_n, lc_fr_v, lc_free, lc_tgIx_1, lc_tgIx_m, obE_R, lc_optK_t, lc_optK_f, lc_noExc_ok, lc_noExc_bad, lc_noExc_exc, lcB_1, lcB_2, lcB_3, isO_own, isO_y, onO_eq, onO_s, bi_len_l, bi_len_scr, bi_len_t, bi_abs, bi_all, bi_any, bi_list, bi_tuple, ix_sl_l, ix_sl_scr, ix_d, ev_dlit, put_ownd, kd_mul_s, kd_mul_l, kd_mul_t, kd_inQ, kd_notInQ, kd_addS, kd_addL, isNon_n, isN_bl, isN_int, isN_str, isN_lst, isN_tup, ty_int_n, ty_int_b, ty_int_i, ty_int_s, ty_int_l, ty_int_t, ty_int_scr, ty_int_d, ty_str_n, ty_str_b, ty_str_i, ty_str_s, ty_str_l, ty_str_t, ty_str_scr, ty_str_d, ty_bool_n, ty_bool_b, ty_bool_i, ty_bool_s, ty_bool_l, ty_bool_t, ty_bool_scr, ty_bool_d, ty_list_n, ty_list_b, ty_list_i, ty_list_s, ty_list_l, ty_list_t, ty_list_scr, ty_list_d, ty_tuple_n, ty_tuple_b, ty_tuple_i, ty_tuple_s, ty_tuple_l, ty_tuple_t, ty_tuple_scr, ty_tuple_d, mtr_split, mtr_join, mtr_starts, mtr_lstrip, mtr_indexS, mtr_indexL, mtr_count, mtr_get1, mtr_get2, eq_nn_, ne_nn_, eq_nb_, ne_nb_, eq_ni_, ne_ni_, eq_bn_, ne_bn_, eq_bb_, ne_bb_, eq_bi_, ne_bi_, eq_bs_, ne_bs_, eq_in_, ne_in_, eq_ib_, ne_ib_, eq_is_, ne_is_, eq_sn_, ne_sn_, eq_sb_, ne_sb_, eq_si_, ne_si_, ne_ns_, c_mul, c_fdiv, c_mod, c_pow, c_adds, c_addl, c_ixs, lt600, lt60, lt1000, c_rng1, c_rng2, c_rng3, c_len, c_str, c_int, c_starts, c_indexS, c_sls, Nat.reduceLT, Int.reduceLT, Int.reduceLE, Int.reduceNeg, Int.reduceToNat, Int.reducePow, Int.reduceMul, Int.reduceAdd, Int.reduceSub, Bool.not_true, Bool.not_false, It.slots, E.slot, Nat.reduceBEq, Sc.d, Int.reduceEq, Nat.reduceEqDiff, kk_LF, kk_LL, hle, h2', hb, hab, hl, bi_bls, all_id, h3]
          rfl
        · rw [if_neg (by rintro (x | x); exact h2 x; exact h3 x)]
          have h3 := all_t h3
          show _ = Rs.ok (⟨optD (lawEnd t kL (lawLV t 0)), .fz⟩ : R) o
          simp only [List.length_cons, List.length_nil, Nat.reduceAdd, Nat.reduceLeDiff, if_true, List.map_cons, List.map_nil, Nat.reduceSub, List.replicate_succ, List.replicate_zero, List.cons_append, List.nil_append, List.all_cons, List.all_nil, Bool.and_true, Bool.true_and, Bool.and_self, decide_true, decide_false, Bool.false_or, Bool.or_false, List.contains_nil, if_false, Bool.false_eq_true, le_big, nal_fz, nal_fz', nal_ex', E.isHole, run_eq, reduceIte, cnd_bl, sl_0, sl_s, rd_val, rd_own, rd_ownd, pass_fz, pass_ex, pass_al, bind_ok, bind_bad, out_ok, out_bad, seq_next, seq_ret, seq_brk, seq_cnt, seq_bad, ofO_some, ofO_none, ev_var, ev_int, ev_str, ev_bl, ev_non, ev_glb, ev_op, ngI_int, ev_neg, nt_bl, ev_not, ev_and, ev_or, ev_one, ev_ife, oc_bl, ev_chain, ev_call, ev_bi, ev_isi, ev_mt, ev_ix, ev_sl, toI_int, optI_t, optI_f, ev_lst, ev_tup, ev_nil, ev_cons, ss_nil_, ss_cons_, s_set, s_own, s_par, s_ife, s_for, s_whl, s_drop, s_app, obE_s, loop_1, loop_m, s_ret, s_retN, s_nev, s_brk, s_cnt, s_pass, outO_some, outO_none, lk_nil, lk_cons, st1_0, st1_s, put_fz, put_ex, put_own, putV_nil, putV_cons, putA_nil, putA_cons, fin_next, fin_ret, fin_bad, nal_fz, nal_ex, nal_fz, nal_ex, add_ii, sub_ii, lt_ii, le_ii, gt_ii, ge_ii, is_n, isNot_n, eq_ss, ne_ss, eq_ii, ne_ii, eq_ns, in_ss, notIn_ss, kd_add_i, kd_add_s, kd_add_l, kd_mul_i, kd_sub, kd_fdiv, kd_mod, kd_pow, kd_lt, kd_le, kd_gt, kd_ge, kd_eq, kd_ne, kd_is, kd_isn, kd_in, kd_nin, ix_l, ix_t, ix_scr, map_some_, map_none_, bindO_some, bindO_none, it_any, it_A_t, it_A_s, it_A_l, it_L_fz, it_L_ex, it_L_al, it_r1, it_r2, it_r3, it_enum, it_zip, it_zip3, it_zipA, it_Z_s, it_Z_l, ev_lc, lc_fr_n, lc_fr_v, lc_free, lc_tgIx_1, lc_tgIx_m, obE_R, lc_optK_t, lc_optK_f, lc_noExc_ok, lc_noExc_bad, lc_noExc_exc, lcB_1, lcB_2, lcB_3, isO_own, isO_y, onO_eq, onO_s, bi_len_l, bi_len_scr, bi_len_t, bi_abs, bi_all, bi_any, bi_list, bi_tuple, ix_sl_l, ix_sl_scr, ix_d, ev_dlit, put_ownd, kd_mul_s, kd_mul_l, kd_mul_t, kd_inQ, kd_notInQ, kd_addS, kd_addL, isNon_n, isN_bl, isN_int, isN_str, isN_lst, isN_tup, ty_int_n, ty_int_b, ty_int_i, ty_int_s, ty_int_l, ty_int_t, ty_int_scr, ty_int_d, ty_str_n, ty_str_b, ty_str_i, ty_str_s, ty_str_l, ty_str_t, ty_str_scr, ty_str_d, ty_bool_n, ty_bool_b, ty_bool_i, ty_bool_s, ty_bool_l, ty_bool_t, ty_bool_scr, ty_bool_d, ty_list_n, ty_list_b, ty_list_i, ty_list_s, ty_list_l, ty_list_t, ty_list_scr, ty_list_d, ty_tuple_n, ty_tuple_b, ty_tuple_i, ty_tuple_s, ty_tuple_l, ty_tuple_t, ty_tuple_scr, ty_tuple_d, mtr_split, mtr_join, mtr_starts, mtr_lstrip, mtr_indexS, mtr_indexL, mtr_count, mtr_get1, mtr_get2, eq_nn_, ne_nn_, eq_nb_, ne_nb_, eq_ni_, ne_ni_, eq_bn_, ne_bn_, eq_bb_, ne_bb_, eq_bi_, ne_bi_, eq_bs_, ne_bs_, eq_in_, ne_in_, eq_ib_, ne_ib_, eq_is_, ne_is_, eq_sn_, ne_sn_, eq_sb_, ne_sb_, eq_si_, ne_si_, ne_ns_, c_mul, c_fdiv, c_mod, c_pow, c_adds, c_addl, c_ixs, lt600, lt60, lt1000, c_rng1, c_rng2, c_rng3, c_len, c_str, c_int, c_starts, c_indexS, c_sls, Nat.reduceLT, Int.reduceLT, Int.reduceLE, Int.reduceNeg, Int.reduceToNat, Int.reducePow, Int.reduceMul, Int.reduceAdd, Int.reduceSub, Bool.not_true, Bool.not_false, It.slots, E.slot, Nat.reduceBEq, Sc.d, Int.reduceEq, Nat.reduceEqDiff, kk_LF, kk_LL, hle, h2', hb, hab, hl, bi_bls, all_id, h3]
          refine for_walk (fun c => D.str [c]) (fun rem en o' => o' = o ∧ (rem.all fun c => abc.contains c) = true ∧ ∃ v j s3 s4 s5 s6, en = [.val ⟨.str t, .fz⟩, .val ⟨.str kL, .fz⟩, .val ⟨.int v, .fz⟩, s3, s4, s5, s6] ∧ lawLV rem v = lawLV t 0 ∧ v.natAbs < 27 ^ j ∧ j + rem.length ≤ 20) (fun x => fin (Out.seq (Out.seq (x.seq _) _) _) = _) ?_ ?_ t _ _ ⟨rfl, h3, 0, 0, _, _, _, _, rfl, rfl, by decide, by omega⟩
          · rintro c r en o' ⟨rfl, hall, v, j, s3, s4, s5, s6, rfl, q1, q2, q3⟩
            rw [List.length_cons] at q3
            rw [List.all_cons, Bool.and_eq_true] at hall
            obtain ⟨hcc, hall⟩ := hall
            have h27 : 27 ^ j ≤ 27 ^ 20 := Nat.pow_le_pow_right (by decide) (by omega)
            have e2 : Mt.indexS.ev (.str abc) [.str [c]] = some ⟨.int (posOf c abc), .fz⟩ := c_indexS hcc (by decide)
            have e3 : Op.mul.ev (.int v) (.int 26) = some (.int (v * 26)) := c_mul (Nat.lt_of_lt_of_le q2 (Nat.le_trans h27 (by decide))) (by decide)
            have h4 := pos_lt c abc hcc
            rw [abc_len] at h4
            simp only [List.length_cons, List.length_nil, Nat.reduceAdd, Nat.reduceLeDiff, if_true, List.map_cons, List.map_nil, Nat.reduceSub, List.replicate_succ, List.replicate_zero, List.cons_append, List.nil_append, List.all_cons, List.all_nil, Bool.and_true, Bool.true_and, Bool.and_self, decide_true, decide_false, Bool.false_or, Bool.or_false, List.contains_nil, if_false, Bool.false_eq_true, le_big, nal_fz, nal_fz', nal_ex', E.isHole, run_eq, reduceIte, cnd_bl, sl_0, sl_s, rd_val, rd_own, rd_ownd, pass_fz, pass_ex, pass_al, bind_ok, bind_bad, out_ok, out_bad, seq_next, seq_ret, seq_brk, seq_cnt, seq_bad, ofO_some, ofO_none, ev_var, ev_int, ev_str, ev_bl, ev_non, ev_glb, ev_op, ngI_int, ev_neg, nt_bl, ev_not, ev_and, ev_or, ev_one, ev_ife, oc_bl, ev_chain, ev_call, ev_bi, ev_isi, ev_mt, ev_ix, ev_sl, toI_int, optI_t, optI_f, ev_lst, ev_tup, ev_nil, ev_cons, ss_nil_, ss_cons_, s_set, s_own, s_par, s_ife, s_for, s_whl, s_drop, s_app, obE_s, loop_1, loop_m, s_ret, s_retN, s_nev, s_brk, s_cnt, s_pass, outO_some, outO_none, lk_nil, lk_cons, st1_0, st1_s, put_fz, put_ex, put_own, putV_nil, putV_cons, putA_nil, putA_cons, fin_next, fin_ret, fin_bad, nal_fz, nal_ex, nal_fz, nal_ex, add_ii, sub_ii, lt_ii, le_ii, gt_ii, ge_ii, is_n, isNot_n, eq_ss, ne_ss, eq_ii, ne_ii, eq_ns, in_ss, notIn_ss, kd_add_i, kd_add_s, kd_add_l, kd_mul_i, kd_sub, kd_fdiv, kd_mod, kd_pow, kd_lt, kd_le, kd_gt, kd_ge, kd_eq, kd_ne, kd_is, kd_isn, kd_in, kd_nin, ix_l, ix_t, ix_scr, map_some_, map_none_, bindO_some, bindO_none, it_any, it_A_t, it_A_s, it_A_l, it_L_fz, it_L_ex, it_L_al, it_r1, it_r2, it_r3, it_enum, it_zip, it_zip3, it_zipA, it_Z_s, it_Z_l, ev_lc, lc_fr_n, lc_fr_v, lc_free, lc_tgIx_1, lc_tgIx_m, obE_R, lc_optK_t, lc_optK_f, lc_noExc_ok, lc_noExc_bad, lc_noExc_exc, lcB_1, lcB_2, lcB_3, isO_own, isO_y, onO_eq, onO_s, bi_len_l, bi_len_scr, bi_len_t, bi_abs, bi_all, bi_any, bi_list, bi_tuple, ix_sl_l, ix_sl_scr, ix_d, ev_dlit, put_ownd, kd_mul_s, kd_mul_l, kd_mul_t, kd_inQ, kd_notInQ, kd_addS, kd_addL, isNon_n, isN_bl, isN_int, isN_str, isN_lst, isN_tup, ty_int_n, ty_int_b, ty_int_i, ty_int_s, ty_int_l, ty_int_t, ty_int_scr, ty_int_d, ty_str_n, ty_str_b, ty_str_i, ty_str_s, ty_str_l, ty_str_t, ty_str_scr, ty_str_d, ty_bool_n, ty_bool_b, ty_bool_i, ty_bool_s, ty_bool_l, ty_bool_t, ty_bool_scr, ty_bool_d, ty_list_n, ty_list_b, ty_list_i, ty_list_s, ty_list_l, ty_list_t, ty_list_scr, ty_list_d, ty_tuple_n, ty_tuple_b, ty_tuple_i, ty_tuple_s, ty_tuple_l, ty_tuple_t, ty_tuple_scr, ty_tuple_d, mtr_split, mtr_join, mtr_starts, mtr_lstrip, mtr_indexS, mtr_indexL, mtr_count, mtr_get1, mtr_get2, eq_nn_, ne_nn_, eq_nb_, ne_nb_, eq_ni_, ne_ni_, eq_bn_, ne_bn_, eq_bb_, ne_bb_, eq_bi_, ne_bi_, eq_bs_, ne_bs_, eq_in_, ne_in_, eq_ib_, ne_ib_, eq_is_, ne_is_, eq_sn_, ne_sn_, eq_sb_, ne_sb_, eq_si_, ne_si_, ne_ns_, c_mul, c_fdiv, c_mod, c_pow, c_adds, c_addl, c_ixs, lt600, lt60, lt1000, c_rng1, c_rng2, c_rng3, c_len, c_str, c_int, c_starts, c_indexS, c_sls, Nat.reduceLT, Int.reduceLT, Int.reduceLE, Int.reduceNeg, Int.reduceToNat, Int.reducePow, Int.reduceMul, Int.reduceAdd, Int.reduceSub, Bool.not_true, Bool.not_false, It.slots, E.slot, Nat.reduceBEq, Sc.d, Int.reduceEq, Nat.reduceEqDiff, e2, e3]
            refine ⟨rfl, hall, v * 26 + posOf c abc + 1, j + 1, .val ⟨.str [c], .fz⟩, s4, s5, s6, rfl, q1, ?_, by omega⟩
            rw [Nat.pow_succ]; omega
          · rintro en o' ⟨rfl, -, v, j, s3, s4, s5, s6, rfl, q1, q2, q3⟩
            have q1 : v = lawLV t 0 := q1
            simp only [List.length_cons, List.length_nil, Nat.reduceAdd, Nat.reduceLeDiff, if_true, List.map_cons, List.map_nil, Nat.reduceSub, List.replicate_succ, List.replicate_zero, List.cons_append, List.nil_append, List.all_cons, List.all_nil, Bool.and_true, Bool.true_and, Bool.and_self, decide_true, decide_false, Bool.false_or, Bool.or_false, List.contains_nil, if_false, Bool.false_eq_true, le_big, nal_fz, nal_fz', nal_ex', E.isHole, run_eq, reduceIte, cnd_bl, sl_0, sl_s, rd_val, rd_own, rd_ownd, pass_fz, pass_ex, pass_al, bind_ok, bind_bad, out_ok, out_bad, seq_next, seq_ret, seq_brk, seq_cnt, seq_bad, ofO_some, ofO_none, ev_var, ev_int, ev_str, ev_bl, ev_non, ev_glb, ev_op, ngI_int, ev_neg, nt_bl, ev_not, ev_and, ev_or, ev_one, ev_ife, oc_bl, ev_chain, ev_call, ev_bi, ev_isi, ev_mt, ev_ix, ev_sl, toI_int, optI_t, optI_f, ev_lst, ev_tup, ev_nil, ev_cons, ss_nil_, ss_cons_, s_set, s_own, s_par, s_ife, s_for, s_whl, s_drop, s_app, obE_s, loop_1, loop_m, s_ret, s_retN, s_nev, s_brk, s_cnt, s_pass, outO_some, outO_none, lk_nil, lk_cons, st1_0, st1_s, put_fz, put_ex, put_own, putV_nil, putV_cons, putA_nil, putA_cons, fin_next, fin_ret, fin_bad, nal_fz, nal_ex, nal_fz, nal_ex, add_ii, sub_ii, lt_ii, le_ii, gt_ii, ge_ii, is_n, isNot_n, eq_ss, ne_ss, eq_ii, ne_ii, eq_ns, in_ss, notIn_ss, kd_add_i, kd_add_s, kd_add_l, kd_mul_i, kd_sub, kd_fdiv, kd_mod, kd_pow, kd_lt, kd_le, kd_gt, kd_ge, kd_eq, kd_ne, kd_is, kd_isn, kd_in, kd_nin, ix_l, ix_t, ix_scr, map_some_, map_none_, bindO_some, bindO_none, it_any, it_A_t, it_A_s, it_A_l, it_L_fz, it_L_ex, it_L_al, it_r1, it_r2, it_r3, it_enum, it_zip, it_zip3, it_zipA, it_Z_s, it_Z_l, ev_lc, lc_fr_n, lc_fr_v, lc_free, lc_tgIx_1, lc_tgIx_m, obE_R, lc_optK_t, lc_optK_f, lc_noExc_ok, lc_noExc_bad, lc_noExc_exc, lcB_1, lcB_2, lcB_3, isO_own, isO_y, onO_eq, onO_s, bi_len_l, bi_len_scr, bi_len_t, bi_abs, bi_all, bi_any, bi_list, bi_tuple, ix_sl_l, ix_sl_scr, ix_d, ev_dlit, put_ownd, kd_mul_s, kd_mul_l, kd_mul_t, kd_inQ, kd_notInQ, kd_addS, kd_addL, isNon_n, isN_bl, isN_int, isN_str, isN_lst, isN_tup, ty_int_n, ty_int_b, ty_int_i, ty_int_s, ty_int_l, ty_int_t, ty_int_scr, ty_int_d, ty_str_n, ty_str_b, ty_str_i, ty_str_s, ty_str_l, ty_str_t, ty_str_scr, ty_str_d, ty_bool_n, ty_bool_b, ty_bool_i, ty_bool_s, ty_bool_l, ty_bool_t, ty_bool_scr, ty_bool_d, ty_list_n, ty_list_b, ty_list_i, ty_list_s, ty_list_l, ty_list_t, ty_list_scr, ty_list_d, ty_tuple_n, ty_tuple_b, ty_tuple_i, ty_tuple_s, ty_tuple_l, ty_tuple_t, ty_tuple_scr, ty_tuple_d, mtr_split, mtr_join, mtr_starts, mtr_lstrip, mtr_indexS, mtr_indexL, mtr_count, mtr_get1, mtr_get2, eq_nn_, ne_nn_, eq_nb_, ne_nb_, eq_ni_, ne_ni_, eq_bn_, ne_bn_, eq_bb_, ne_bb_, eq_bi_, ne_bi_, eq_bs_, ne_bs_, eq_in_, ne_in_, eq_ib_, ne_ib_, eq_is_, ne_is_, eq_sn_, ne_sn_, eq_sb_, ne_sb_, eq_si_, ne_si_, ne_ns_, c_mul, c_fdiv, c_mod, c_pow, c_adds, c_addl, c_ixs, lt600, lt60, lt1000, c_rng1, c_rng2, c_rng3, c_len, c_str, c_int, c_starts, c_indexS, c_sls, Nat.reduceLT, Int.reduceLT, Int.reduceLE, Int.reduceNeg, Int.reduceToNat, Int.reducePow, Int.reduceMul, Int.reduceAdd, Int.reduceSub, Bool.not_true, Bool.not_false, It.slots, E.slot, Nat.reduceBEq, Sc.d, Int.reduceEq, Nat.reduceEqDiff, hend, q1]
    · have e : lawValN t kR = if 20 < t.length ∨ (t.all fun c => romS.contains c) = false then none else some (lawRV t 0) := by
        unfold lawValN; rw [if_neg (by decide), if_neg (by decide)]
      unfold lawVal
      rw [e]
      have hdm : dmerge [] [(Sum.inr [105], Sc.int 1), (Sum.inr [118], Sc.int 5), (Sum.inr [120], Sc.int 10), (Sum.inr [108], Sc.int 50), (Sum.inr [99], Sc.int 100), (Sum.inr [100], Sc.int 500), (Sum.inr [109], Sc.int 1000)] = wD := rfl
      have hl := fun s => lc_in G o 3 s t [.val ⟨.str t, .fz⟩, .val ⟨.str kR, .fz⟩, .val ⟨.int 0, .fz⟩, .none, .val ⟨.dct wD, .fz⟩, .none, .none] (by simp)
      by_cases h2 : 20 < t.length
      · rw [if_pos (Or.inl h2)]
        have h2' : decide ((20 : Int) < t.length) = true := decide_eq_true (by omega)
        simp only [List.length_cons, List.length_nil, Nat.reduceAdd, Nat.reduceLeDiff, if_true, List.map_cons, List.map_nil, Nat.reduceSub, List.replicate_succ, List.replicate_zero, List.cons_append, List.nil_append, List.all_cons, List.all_nil, Bool.and_true, Bool.true_and, Bool.and_self, decide_true, decide_false, Bool.false_or, Bool.or_false, List.contains_nil, if_false, Bool.false_eq_true, le_big, nal_fz, nal_fz', nal_ex', E.isHole, run_eq, reduceIte, cnd_bl, sl_0, sl_s, rd_val, rd_own, rd_ownd, pass_fz, pass_ex, pass_al, bind_ok, bind_bad, out_ok, out_bad, seq_next, seq_ret, seq_brk, seq_cnt, seq_bad, ofO_some, ofO_none, ev_var, ev_int, ev_str, ev_bl, ev_non, ev_glb, ev_op, ngI_int, ev_neg, nt_bl, ev_not, ev_and, ev_or, ev_one, ev_ife, oc_bl, ev_chain, ev_call, ev_bi, ev_isi, ev_mt, ev_ix, ev_sl, toI_int, optI_t, optI_f, ev_lst, ev_tup, ev_nil, ev_cons, ss_nil_, ss_cons_, s_set, s_own, s_par, s_ife, s_for, s_whl, s_drop, s_app, obE_s, loop_1, loop_m, s_ret, s_retN, s_nev, s_brk, s_cnt, s_pass, outO_some, outO_none, lk_nil, lk_cons, st1_0, st1_s, put_fz, put_ex, put_own, putV_nil, putV_cons, putA_nil, putA_cons, fin_next, fin_ret, fin_bad, nal_fz, nal_ex, nal_fz, nal_ex, add_ii, sub_ii, lt_ii, le_ii, gt_ii, ge_ii, is_n, isNot_n, eq_ss, ne_ss, eq_ii, ne_ii, eq_ns, in_ss, notIn_ss, kd_add_i, kd_add_s, kd_add_l, kd_mul_i, kd_sub, kd_fdiv, kd_mod, kd_pow, kd_lt, kd_le, kd_gt, kd_ge, kd_eq, kd_ne, kd_is, kd_isn, kd_in, kd_nin, ix_l, ix_t, ix_scr, map_some_, map_none_, bindO_some, bindO_none, it_any, it_A_t, it_A_s, it_A_l, it_L_fz, it_L_ex, it_L_al, it_r1, it_r2, it_r3, it_enum, it_zip, it_zip3, it_zipA, it_Z_s, it_Z_l, ev_lc, lc_fr_n, lc_fr_v, lc_free, lc_tgIx_1, lc_tgIx_m, obE_R, lc_optK_t, lc_optK_f, lc_noExc_ok, lc_noExc_bad, lc_noExc_exc, lcB_1, lcB_2, lcB_3, isO_own, isO_y, onO_eq, onO_s, bi_len_l, bi_len_scr, bi_len_t, bi_abs, bi_all, bi_any, bi_list, bi_tuple, ix_sl_l, ix_sl_scr, ix_d, ev_dlit, put_ownd, kd_mul_s, kd_mul_l, kd_mul_t, kd_inQ, kd_notInQ, kd_addS, kd_addL, isNon_n, isN_bl, isN_int, isN_str, isN_lst, isN_tup, ty_int_n, ty_int_b, ty_int_i, ty_int_s, ty_int_l, ty_int_t, ty_int_scr, ty_int_d, ty_str_n, ty_str_b, ty_str_i, ty_str_s, ty_str_l, ty_str_t, ty_str_scr, ty_str_d, ty_bool_n, ty_bool_b, ty_bool_i, ty_bool_s, ty_bool_l, ty_bool_t, ty_bool_scr, ty_bool_d, ty_list_n, ty_list_b, ty_list_i, ty_list_s, ty_list_l, ty_list_t, ty_list_scr, ty_list_d, ty_tuple_n, ty_tuple_b, ty_tuple_i, ty_tuple_s, ty_tuple_l, ty_tuple_t, ty_tuple_scr, ty_tuple_d, mtr_split, mtr_join, mtr_starts, mtr_lstrip, mtr_indexS, mtr_indexL, mtr_count, mtr_get1, mtr_get2, eq_nn_, ne_nn_, eq_nb_, ne_nb_, eq_ni_, ne_ni_, eq_bn_, ne_bn_, eq_bb_, ne_bb_, eq_bi_, ne_bi_, eq_bs_, ne_bs_, eq_in_, ne_in_, eq_ib_, ne_ib_, eq_is_, ne_is_, eq_sn_, ne_sn_, eq_sb_, ne_sb_, eq_si_, ne_si_, ne_ns_, c_mul, c_fdiv, c_mod, c_pow, c_adds, c_addl, c_ixs, lt600, lt60, lt1000, c_rng1, c_rng2, c_rng3, c_len, c_str, c_int, c_starts, c_indexS, c_sls, Nat.reduceLT, Int.reduceLT, Int.reduceLE, Int.reduceNeg, Int.reduceToNat, Int.reducePow, Int.reduceMul, Int.reduceAdd, Int.reduceSub, Bool.not_true, Bool.not_false, It.slots, E.slot, Nat.reduceBEq, Sc.d, Int.reduceEq, Nat.reduceEqDiff, kk_RF, kk_RL, hle, h2', hdm]
        rfl
      · have h2' : decide ((20 : Int) < t.length) = false := decide_eq_false (by omega)
        by_cases h3 : (t.all fun c => romS.contains c) = false
        · rw [if_pos (Or.inr h3)]
          simp only [List.length_cons, List.length_nil, Nat.reduceAdd, Nat.reduceLeDiff, if_true, List.map_cons, List.map_nil, Nat.reduceSub, List.replicate_succ, List.replicate_zero, List.cons_append, List.nil_append, List.all_cons, List.all_nil, Bool.and_true, Bool.true_and, Bool.and_self, decide_true, decide_false, Bool.false_or, Bool.or_false, List.contains_nil, if_false, Bool.false_eq_true, le_big, nal_fz, nal_fz', nal_ex', E.isHole, run_eq, reduceIte, cnd_bl, sl_0, sl_s, rd_val, rd_own, rd_ownd, pass_fz, pass_ex, pass_al, bind_ok, bind_bad, out_ok, out_bad, seq_next, seq_ret, seq_brk, seq_cnt, seq_bad, ofO_some, ofO_none, ev_var, ev_int, ev_str, ev_bl, ev_non, ev_glb, ev_op, ngI_int, ev_neg, nt_bl, ev_not, ev_and, ev_or, ev_one, ev_ife, oc_bl, ev_chain, ev_call, ev_bi, ev_isi, ev_mt, ev_ix, ev_sl, toI_int, optI_t, optI_f, ev_lst, ev_tup, ev_nil, ev_cons, ss_nil_, ss_cons_, s_set, s_own, s_par, s_ife, s_for, s_whl, s_drop, s_app, obE_s, loop_1, loop_m, s_ret, s_retN, s_nev, s_brk, s_cnt, s_pass, outO_some, outO_none, lk_nil, lk_cons, st1_0, st1_s, put_fz, put_ex, put_own, putV_nil, putV_cons, putA_nil, putA_cons, fin_next, fin_ret, fin_bad, nal_fz, nal_ex, nal_fz, nal_ex, add_ii, sub_ii, lt_ii, le_ii, gt_ii, ge_ii, is_n, isNot_n, eq_ss, ne_ss, eq_ii, ne_ii, eq_ns, in_ss, notIn_ss, kd_add_i, kd_add_s, kd_add_l, kd_mul_i, kd_sub, kd_fdiv, kd_mod, kd_pow, kd_lt, kd_le, kd_gt, kd_ge, kd_eq, kd_ne, kd_is, kd_isn, kd_in, kd_nin, ix_l, ix_t, ix_scr, map_some_, map_none_, bindO_some, bindO_none, it_any, it_A_t, it_A_s, it_A_l, it_L_fz, it_L_ex, it_L_al, it_r1, it_r2, it_r3, it_enum, it_zip, it_zip3, it_zipA, it_Z_s, it_Z_l, ev_lc, lc_fr_n, lc_fr_v, lc_free, lc_tgIx_1, lc_tgIx_m, obE_R, lc_optK_t, lc_optK_f, lc_noExc_ok, lc_noExc_bad, lc_noExc_exc, lcB_1, lcB_2, lcB_3, isO_own, isO_y, onO_eq, onO_s, bi_len_l, bi_len_scr, bi_len_t, bi_abs, bi_all, bi_any, bi_list, bi_tuple, ix_sl_l, ix_sl_scr, ix_d, ev_dlit, put_ownd, kd_mul_s, kd_mul_l, kd_mul_t, kd_inQ, kd_notInQ, kd_addS, kd_addL, isNon_n, isN_bl, isN_int, isN_str, isN_lst, isN_tup, ty_int_n, ty_int_b, ty_int_i, ty_int_s, ty_int_l, ty_int_t, ty_int_scr, ty_int_d, ty_str_n, ty_str_b, ty_str_i, ty_str_s, ty_str_l, ty_str_t, ty_str_scr, ty_str_d, ty_bool_n, ty_bool_b, ty_bool_i, ty_bool_s, ty_bool_l, ty_bool_t, ty_bool_scr, ty_bool_d, ty_list_n, ty_list_b, ty_list_i, ty_list_s, ty_list_l, ty_list_t, ty_list_scr, ty_list_d, ty_tuple_n, ty_tuple_b, ty_tuple_i, ty_tuple_s, ty_tuple_l, ty_tuple_t, ty_tuple_scr, ty_tuple_d, mtr_split, mtr_join, mtr_starts, mtr_lstrip, mtr_indexS, mtr_indexL, mtr_count, mtr_get1, mtr_get2, eq_nn_, ne_nn_, eq_nb_, ne_nb_, eq_ni_, ne_ni_, eq_bn_, ne_bn_, eq_bb_, ne_bb_, eq_bi_, ne_bi_, eq_bs_, ne_bs_, eq_in_, ne_in_, eq_ib_, ne_ib_, eq_is_, ne_is_, eq_sn_, ne_sn_, eq_sb_, ne_sb_, eq_si_, ne_si_, ne_ns_, c_mul, c_fdiv, c_mod, c_pow, c_adds, c_addl, c_ixs, lt600, lt60, lt1000, c_rng1, c_rng2, c_rng3, c_len, c_str, c_int, c_starts, c_indexS, c_sls, Nat.reduceLT, Int.reduceLT, Int.reduceLE, Int.reduceNeg, Int.reduceToNat, Int.reducePow, Int.reduceMul, Int.reduceAdd, Int.reduceSub, Bool.not_true, Bool.not_false, It.slots, E.slot, Nat.reduceBEq, Sc.d, Int.reduceEq, Nat.reduceEqDiff, kk_RF, kk_RL, hle, h2', hb, hro, hl, bi_bls, all_id, h3, hdm]
          rfl
        · rw [if_neg (by rintro (x | x); exact h2 x; exact h3 x)]
          have h3 := all_t h3
          show _ = Rs.ok (⟨optD (lawEnd t kR (lawRV t 0)), .fz⟩ : R) o
          have e6 : slEv (.str t) (some 1) none = some ⟨.str (t.drop 1), .fz⟩ := by rw [c_sls _ _ ht]; exact congrArg _ (congrArg (fun x => R.mk (.str x) .fz) (cut_drop t 1))
          have e7 : Op.add.ev (.str (t.drop 1)) (.str [32]) = some (.str (t.drop 1 ++ [32])) := c_adds (by rw [List.length_drop]; show _ + 1 ≤ 1000000; omega)
          simp only [List.length_cons, List.length_nil, Nat.reduceAdd, Nat.reduceLeDiff, if_true, List.map_cons, List.map_nil, Nat.reduceSub, List.replicate_succ, List.replicate_zero, List.cons_append, List.nil_append, List.all_cons, List.all_nil, Bool.and_true, Bool.true_and, Bool.and_self, decide_true, decide_false, Bool.false_or, Bool.or_false, List.contains_nil, if_false, Bool.false_eq_true, le_big, nal_fz, nal_fz', nal_ex', E.isHole, run_eq, reduceIte, cnd_bl, sl_0, sl_s, rd_val, rd_own, rd_ownd, pass_fz, pass_ex, pass_al, bind_ok, bind_bad, out_ok, out_bad, seq_next, seq_ret, seq_brk, seq_cnt, seq_bad, ofO_some, ofO_none, ev_var, ev_int, ev_str, ev_bl, ev_non, ev_glb, ev_op, ngI_int, ev_neg, nt_bl, ev_not, ev_and, ev_or, ev_one, ev_ife, oc_bl, ev_chain, ev_call, ev_bi, ev_isi, ev_mt, ev_ix, ev_sl, toI_int, optI_t, optI_f, ev_lst, ev_tup, ev_nil, ev_cons, ss_nil_, ss_cons_, s_set, s_own, s_par, s_ife, s_for, s_whl, s_drop, s_app, obE_s, loop_1, loop_m, s_ret, s_retN, s_nev, s_brk, s_cnt, s_pass, outO_some, outO_none, lk_nil, lk_cons, st1_0, st1_s, put_fz, put_ex, put_own, putV_nil, putV_cons, putA_nil, putA_cons, fin_next, fin_ret, fin_bad, nal_fz, nal_ex, nal_fz, nal_ex, add_ii, sub_ii, lt_ii, le_ii, gt_ii, ge_ii, is_n, isNot_n, eq_ss, ne_ss, eq_ii, ne_ii, eq_ns, in_ss, notIn_ss, kd_add_i, kd_add_s, kd_add_l, kd_mul_i, kd_sub, kd_fdiv, kd_mod, kd_pow, kd_lt, kd_le, kd_gt, kd_ge, kd_eq, kd_ne, kd_is, kd_isn, kd_in, kd_nin, ix_l, ix_t, ix_scr, map_some_, map_none_, bindO_some, bindO_none, it_any, it_A_t, it_A_s, it_A_l, it_L_fz, it_L_ex, it_L_al, it_r1, it_r2, it_r3, it_enum, it_zip, it_zip3, it_zipA, it_Z_s, it_Z_l, ev_lc, lc_fr_n, lc_fr_v, lc_free, lc_tgIx_1, lc_tgIx_m, obE_R, lc_optK_t, lc_optK_f, lc_noExc_ok, lc_noExc_bad, lc_noExc_exc, lcB_1, lcB_2, lcB_3, isO_own, isO_y, onO_eq, onO_s, bi_len_l, bi_len_scr, bi_len_t, bi_abs, bi_all, bi_any, bi_list, bi_tuple, ix_sl_l, ix_sl_scr, ix_d, ev_dlit, put_ownd, kd_mul_s, kd_mul_l, kd_mul_t, kd_inQ, kd_notInQ, kd_addS, kd_addL, isNon_n, isN_bl, isN_int, isN_str, isN_lst, isN_tup, ty_int_n, ty_int_b, ty_int_i, ty_int_s, ty_int_l, ty_int_t, ty_int_scr, ty_int_d, ty_str_n, ty_str_b, ty_str_i, ty_str_s, ty_str_l, ty_str_t, ty_str_scr, ty_str_d, ty_bool_n, ty_bool_b, ty_bool_i, ty_bool_s, ty_bool_l, ty_bool_t, ty_bool_scr, ty_bool_d, ty_list_n, ty_list_b, ty_list_i, ty_list_s, ty_list_l, ty_list_t, ty_list_scr, ty_list_d, ty_tuple_n, ty_tuple_b, ty_tuple_i, ty_tuple_s, ty_tuple_l, ty_tuple_t, ty_tuple_scr, ty_tuple_d, mtr_split, mtr_join, mtr_starts, mtr_lstrip, mtr_indexS, mtr_indexL, mtr_count, mtr_get1, mtr_get2, eq_nn_, ne_nn_, eq_nb_, ne_nb_, eq_ni_, ne_ni_, eq_bn_, ne_bn_, eq_bb_, ne_bb_, eq_bi_, ne_bi_, eq_bs_, ne_bs_, eq_in_, ne_in_, eq_ib_, ne_ib_, eq_is_, ne_is_, eq_sn_, ne_sn_, eq_sb_, ne_sb_, eq_si_, ne_si_, ne_ns_, c_mul, c_fdiv, c_mod, c_pow, c_adds, c_addl, c_ixs, lt600, lt60, lt1000, c_rng1, c_rng2, c_rng3, c_len, c_str, c_int, c_starts, c_indexS, c_sls, Nat.reduceLT, Int.reduceLT, Int.reduceLE, Int.reduceNeg, Int.reduceToNat, Int.reducePow, Int.reduceMul, Int.reduceAdd, Int.reduceSub, Bool.not_true, Bool.not_false, It.slots, E.slot, Nat.reduceBEq, Sc.d, Int.reduceEq, Nat.reduceEqDiff, kk_RF, kk_RL, hle, h2', hb, hro, hl, bi_bls, all_id, h3, hdm, e6, e7]
          refine for_walkD (fun rem en o' => o' = o ∧ ∃ (u : Txt) (v : Int) (s3 s5 s6 : Slot), (u.all fun c => romS.contains c) = true ∧ rem = zipD (u.map fun c => D.str [c]) ((u.tail ++ [32]).map fun c => D.str [c]) ∧ en = [.val ⟨.str t, .fz⟩, .val ⟨.str kR, .fz⟩, .val ⟨.int v, .fz⟩, s3, .val ⟨.dct wD, .fz⟩, s5, s6] ∧ lawRV u v = lawRV t 0) (fun x => fin (Out.seq (Out.seq (x.seq _) _) _) = _) ?_ ?_ _ _ _ ⟨rfl, t, 0, _, _, _, h3, by rw [List.drop_one], rfl, rfl⟩
          · rintro x rem en o' ⟨rfl, u, v, s3, s5, s6, hall, hr, rfl, hv⟩
            cases u with
            | nil => cases hr
            | cons c r =>
              rw [List.tail_cons, zip_tail, List.cons.injEq] at hr
              obtain ⟨rfl, rfl⟩ := hr
              rw [List.all_cons, Bool.and_eq_true] at hall
              obtain ⟨hc, hall⟩ := hall
              have d1 := wD_at c hc
              cases r with
              | nil =>
                simp only [List.length_cons, List.length_nil, Nat.reduceAdd, Nat.reduceLeDiff, if_true, List.map_cons, List.map_nil, Nat.reduceSub, List.replicate_succ, List.replicate_zero, List.cons_append, List.nil_append, List.all_cons, List.all_nil, Bool.and_true, Bool.true_and, Bool.and_self, decide_true, decide_false, Bool.false_or, Bool.or_false, List.contains_nil, if_false, Bool.false_eq_true, le_big, nal_fz, nal_fz', nal_ex', E.isHole, run_eq, reduceIte, cnd_bl, sl_0, sl_s, rd_val, rd_own, rd_ownd, pass_fz, pass_ex, pass_al, bind_ok, bind_bad, out_ok, out_bad, seq_next, seq_ret, seq_brk, seq_cnt, seq_bad, ofO_some, ofO_none, ev_var, ev_int, ev_str, ev_bl, ev_non, ev_glb, ev_op, ngI_int, ev_neg, nt_bl, ev_not, ev_and, ev_or, ev_one, ev_ife, oc_bl, ev_chain, ev_call, ev_bi, ev_isi, ev_mt, ev_ix, ev_sl, toI_int, optI_t, optI_f, ev_lst, ev_tup, ev_nil, ev_cons, ss_nil_, ss_cons_, s_set, s_own, s_par, s_ife, s_for, s_whl, s_drop, s_app, obE_s, loop_1, loop_m, s_ret, s_retN, s_nev, s_brk, s_cnt, s_pass, outO_some, outO_none, lk_nil, lk_cons, st1_0, st1_s, put_fz, put_ex, put_own, putV_nil, putV_cons, putA_nil, putA_cons, fin_next, fin_ret, fin_bad, nal_fz, nal_ex, nal_fz, nal_ex, add_ii, sub_ii, lt_ii, le_ii, gt_ii, ge_ii, is_n, isNot_n, eq_ss, ne_ss, eq_ii, ne_ii, eq_ns, in_ss, notIn_ss, kd_add_i, kd_add_s, kd_add_l, kd_mul_i, kd_sub, kd_fdiv, kd_mod, kd_pow, kd_lt, kd_le, kd_gt, kd_ge, kd_eq, kd_ne, kd_is, kd_isn, kd_in, kd_nin, ix_l, ix_t, ix_scr, map_some_, map_none_, bindO_some, bindO_none, it_any, it_A_t, it_A_s, it_A_l, it_L_fz, it_L_ex, it_L_al, it_r1, it_r2, it_r3, it_enum, it_zip, it_zip3, it_zipA, it_Z_s, it_Z_l, ev_lc, lc_fr_n, lc_fr_v, lc_free, lc_tgIx_1, lc_tgIx_m, obE_R, lc_optK_t, lc_optK_f, lc_noExc_ok, lc_noExc_bad, lc_noExc_exc, lcB_1, lcB_2, lcB_3, isO_own, isO_y, onO_eq, onO_s, bi_len_l, bi_len_scr, bi_len_t, bi_abs, bi_all, bi_any, bi_list, bi_tuple, ix_sl_l, ix_sl_scr, ix_d, ev_dlit, put_ownd, kd_mul_s, kd_mul_l, kd_mul_t, kd_inQ, kd_notInQ, kd_addS, kd_addL, isNon_n, isN_bl, isN_int, isN_str, isN_lst, isN_tup, ty_int_n, ty_int_b, ty_int_i, ty_int_s, ty_int_l, ty_int_t, ty_int_scr, ty_int_d, ty_str_n, ty_str_b, ty_str_i, ty_str_s, ty_str_l, ty_str_t, ty_str_scr, ty_str_d, ty_bool_n, ty_bool_b, ty_bool_i, ty_bool_s, ty_bool_l, ty_bool_t, ty_bool_scr, ty_bool_d, ty_list_n, ty_list_b, ty_list_i, ty_list_s, ty_list_l, ty_list_t, ty_list_scr, ty_list_d, ty_tuple_n, ty_tuple_b, ty_tuple_i, ty_tuple_s, ty_tuple_l, ty_tuple_t, ty_tuple_scr, ty_tuple_d, mtr_split, mtr_join, mtr_starts, mtr_lstrip, mtr_indexS, mtr_indexL, mtr_count, mtr_get1, mtr_get2, eq_nn_, ne_nn_, eq_nb_, ne_nb_, eq_ni_, ne_ni_, eq_bn_, ne_bn_, eq_bb_, ne_bb_, eq_bi_, ne_bi_, eq_bs_, ne_bs_, eq_in_, ne_in_, eq_ib_, ne_ib_, eq_is_, ne_is_, eq_sn_, ne_sn_, eq_sb_, ne_sb_, eq_si_, ne_si_, ne_ns_, c_mul, c_fdiv, c_mod, c_pow, c_adds, c_addl, c_ixs, lt600, lt60, lt1000, c_rng1, c_rng2, c_rng3, c_len, c_str, c_int, c_starts, c_indexS, c_sls, Nat.reduceLT, Int.reduceLT, Int.reduceLE, Int.reduceNeg, Int.reduceToNat, Int.reducePow, Int.reduceMul, Int.reduceAdd, Int.reduceSub, Bool.not_true, Bool.not_false, It.slots, E.slot, Nat.reduceBEq, Sc.d, Int.reduceEq, Nat.reduceEqDiff, List.headD_nil, show (([32] : Txt) == [32]) = true from rfl, d1]
                exact ⟨rfl, [], v + worth c, _, _, _, rfl, rfl, rfl, hv⟩
              | cons d r =>
                rw [List.all_cons, Bool.and_eq_true] at hall
                have d2 := wD_at d hall.1
                have d3 := rom32 d hall.1
                have hv' : lawRV (d :: r) (if worth c < worth d then v - worth c else v + worth c) = lawRV t 0 := hv
                by_cases hw : worth c < worth d
                · have hw' : decide (worth c < worth d) = true := decide_eq_true hw
                  rw [if_pos hw] at hv'
                  simp only [List.length_cons, List.length_nil, Nat.reduceAdd, Nat.reduceLeDiff, if_true, List.map_cons, List.map_nil, Nat.reduceSub, List.replicate_succ, List.replicate_zero, List.cons_append, List.nil_append, List.all_cons, List.all_nil, Bool.and_true, Bool.true_and, Bool.and_self, decide_true, decide_false, Bool.false_or, Bool.or_false, List.contains_nil, if_false, Bool.false_eq_true, le_big, nal_fz, nal_fz', nal_ex', E.isHole, run_eq, reduceIte, cnd_bl, sl_0, sl_s, rd_val, rd_own, rd_ownd, pass_fz, pass_ex, pass_al, bind_ok, bind_bad, out_ok, out_bad, seq_next, seq_ret, seq_brk, seq_cnt, seq_bad, ofO_some, ofO_none, ev_var, ev_int, ev_str, ev_bl, ev_non, ev_glb, ev_op, ngI_int, ev_neg, nt_bl, ev_not, ev_and, ev_or, ev_one, ev_ife, oc_bl, ev_chain, ev_call, ev_bi, ev_isi, ev_mt, ev_ix, ev_sl, toI_int, optI_t, optI_f, ev_lst, ev_tup, ev_nil, ev_cons, ss_nil_, ss_cons_, s_set, s_own, s_par, s_ife, s_for, s_whl, s_drop, s_app, obE_s, loop_1, loop_m, s_ret, s_retN, s_nev, s_brk, s_cnt, s_pass, outO_some, outO_none, lk_nil, lk_cons, st1_0, st1_s, put_fz, put_ex, put_own, putV_nil, putV_cons, putA_nil, putA_cons, fin_next, fin_ret, fin_bad, nal_fz, nal_ex, nal_fz, nal_ex, add_ii, sub_ii, lt_ii, le_ii, gt_ii, ge_ii, is_n, isNot_n, eq_ss, ne_ss, eq_ii, ne_ii, eq_ns, in_ss, notIn_ss, kd_add_i, kd_add_s, kd_add_l, kd_mul_i, kd_sub, kd_fdiv, kd_mod, kd_pow, kd_lt, kd_le, kd_gt, kd_ge, kd_eq, kd_ne, kd_is, kd_isn, kd_in, kd_nin, ix_l, ix_t, ix_scr, map_some_, map_none_, bindO_some, bindO_none, it_any, it_A_t, it_A_s, it_A_l, it_L_fz, it_L_ex, it_L_al, it_r1, it_r2, it_r3, it_enum, it_zip, it_zip3, it_zipA, it_Z_s, it_Z_l, ev_lc, lc_fr_n, lc_fr_v, lc_free, lc_tgIx_1, lc_tgIx_m, obE_R, lc_optK_t, lc_optK_f, lc_noExc_ok, lc_noExc_bad, lc_noExc_exc, lcB_1, lcB_2, lcB_3, isO_own, isO_y, onO_eq, onO_s, bi_len_l, bi_len_scr, bi_len_t, bi_abs, bi_all, bi_any, bi_list, bi_tuple, ix_sl_l, ix_sl_scr, ix_d, ev_dlit, put_ownd, kd_mul_s, kd_mul_l, kd_mul_t, kd_inQ, kd_notInQ, kd_addS, kd_addL, isNon_n, isN_bl, isN_int, isN_str, isN_lst, isN_tup, ty_int_n, ty_int_b, ty_int_i, ty_int_s, ty_int_l, ty_int_t, ty_int_scr, ty_int_d, ty_str_n, ty_str_b, ty_str_i, ty_str_s, ty_str_l, ty_str_t, ty_str_scr, ty_str_d, ty_bool_n, ty_bool_b, ty_bool_i, ty_bool_s, ty_bool_l, ty_bool_t, ty_bool_scr, ty_bool_d, ty_list_n, ty_list_b, ty_list_i, ty_list_s, ty_list_l, ty_list_t, ty_list_scr, ty_list_d, ty_tuple_n, ty_tuple_b, ty_tuple_i, ty_tuple_s, ty_tuple_l, ty_tuple_t, ty_tuple_scr, ty_tuple_d, mtr_split, mtr_join, mtr_starts, mtr_lstrip, mtr_indexS, mtr_indexL, mtr_count, mtr_get1, mtr_get2, eq_nn_, ne_nn_, eq_nb_, ne_nb_, eq_ni_, ne_ni_, eq_bn_, ne_bn_, eq_bb_, ne_bb_, eq_bi_, ne_bi_, eq_bs_, ne_bs_, eq_in_, ne_in_, eq_ib_, ne_ib_, eq_is_, ne_is_, eq_sn_, ne_sn_, eq_sb_, ne_sb_, eq_si_, ne_si_, ne_ns_, c_mul, c_fdiv, c_mod, c_pow, c_adds, c_addl, c_ixs, lt600, lt60, lt1000, c_rng1, c_rng2, c_rng3, c_len, c_str, c_int, c_starts, c_indexS, c_sls, Nat.reduceLT, Int.reduceLT, Int.reduceLE, Int.reduceNeg, Int.reduceToNat, Int.reducePow, Int.reduceMul, Int.reduceAdd, Int.reduceSub, Bool.not_true, Bool.not_false, It.slots, E.slot, Nat.reduceBEq, Sc.d, Int.reduceEq, Nat.reduceEqDiff, List.headD_cons, d1, d2, d3, hw']
                  exact ⟨rfl, d :: r, v - worth c, _, _, _, by rw [List.all_cons, hall.1, hall.2]; rfl, rfl, rfl, hv'⟩
                · have hw' : decide (worth c < worth d) = false := decide_eq_false hw
                  rw [if_neg hw] at hv'
                  simp only [List.length_cons, List.length_nil, Nat.reduceAdd, Nat.reduceLeDiff, if_true, List.map_cons, List.map_nil, Nat.reduceSub, List.replicate_succ, List.replicate_zero, List.cons_append, List.nil_append, List.all_cons, List.all_nil, Bool.and_true, Bool.true_and, Bool.and_self, decide_true, decide_false, Bool.false_or, Bool.or_false, List.contains_nil, if_false, Bool.false_eq_true, le_big, nal_fz, nal_fz', nal_ex', E.isHole, run_eq, reduceIte, cnd_bl, sl_0, sl_s, rd_val, rd_own, rd_ownd, pass_fz, pass_ex, pass_al, bind_ok, bind_bad, out_ok, out_bad, seq_next, seq_ret, seq_brk, seq_cnt, seq_bad, ofO_some, ofO_none, ev_var, ev_int, ev_str, ev_bl, ev_non, ev_glb, ev_op, ngI_int, ev_neg, nt_bl, ev_not, ev_and, ev_or, ev_one, ev_ife, oc_bl, ev_chain, ev_call, ev_bi, ev_isi, ev_mt, ev_ix, ev_sl, toI_int, optI_t, optI_f, ev_lst, ev_tup, ev_nil, ev_cons, ss_nil_, ss_cons_, s_set, s_own, s_par, s_ife, s_for, s_whl, s_drop, s_app, obE_s, loop_1, loop_m, s_ret, s_retN, s_nev, s_brk, s_cnt, s_pass, outO_some, outO_none, lk_nil, lk_cons, st1_0, st1_s, put_fz, put_ex, put_own, putV_nil, putV_cons, putA_nil, putA_cons, fin_next, fin_ret, fin_bad, nal_fz, nal_ex, nal_fz, nal_ex, add_ii, sub_ii, lt_ii, le_ii, gt_ii, ge_ii, is_n, isNot_n, eq_ss, ne_ss, eq_ii, ne_ii, eq_ns, in_ss, notIn_ss, kd_add_i, kd_add_s, kd_add_l, kd_mul_i, kd_sub, kd_fdiv, kd_mod, kd_pow, kd_lt, kd_le, kd_gt, kd_ge, kd_eq, kd_ne, kd_is, kd_isn, kd_in, kd_nin, ix_l, ix_t, ix_scr, map_some_, map_none_, bindO_some, bindO_none, it_any, it_A_t, it_A_s, it_A_l, it_L_fz, it_L_ex, it_L_al, it_r1, it_r2, it_r3, it_enum, it_zip, it_zip3, it_zipA, it_Z_s, it_Z_l, ev_lc, lc_fr_n, lc_fr_v, lc_free, lc_tgIx_1, lc_tgIx_m, obE_R, lc_optK_t, lc_optK_f, lc_noExc_ok, lc_noExc_bad, lc_noExc_exc, lcB_1, lcB_2, lcB_3, isO_own, isO_y, onO_eq, onO_s, bi_len_l, bi_len_scr, bi_len_t, bi_abs, bi_all, bi_any, bi_list, bi_tuple, ix_sl_l, ix_sl_scr, ix_d, ev_dlit, put_ownd, kd_mul_s, kd_mul_l, kd_mul_t, kd_inQ, kd_notInQ, kd_addS, kd_addL, isNon_n, isN_bl, isN_int, isN_str, isN_lst, isN_tup, ty_int_n, ty_int_b, ty_int_i, ty_int_s, ty_int_l, ty_int_t, ty_int_scr, ty_int_d, ty_str_n, ty_str_b, ty_str_i, ty_str_s, ty_str_l, ty_str_t, ty_str_scr, ty_str_d, ty_bool_n, ty_bool_b, ty_bool_i, ty_bool_s, ty_bool_l, ty_bool_t, ty_bool_scr, ty_bool_d, ty_list_n, ty_list_b, ty_list_i, ty_list_s, ty_list_l, ty_list_t, ty_list_scr, ty_list_d, ty_tuple_n, ty_tuple_b, ty_tuple_i, ty_tuple_s, ty_tuple_l, ty_tuple_t, ty_tuple_scr, ty_tuple_d, mtr_split, mtr_join, mtr_starts, mtr_lstrip, mtr_indexS, mtr_indexL, mtr_count, mtr_get1, mtr_get2, eq_nn_, ne_nn_, eq_nb_, ne_nb_, eq_ni_, ne_ni_, eq_bn_, ne_bn_, eq_bb_, ne_bb_, eq_bi_, ne_bi_, eq_bs_, ne_bs_, eq_in_, ne_in_, eq_ib_, ne_ib_, eq_is_, ne_is_, eq_sn_, ne_sn_, eq_sb_, ne_sb_, eq_si_, ne_si_, ne_ns_, c_mul, c_fdiv, c_mod, c_pow, c_adds, c_addl, c_ixs, lt600, lt60, lt1000, c_rng1, c_rng2, c_rng3, c_len, c_str, c_int, c_starts, c_indexS, c_sls, Nat.reduceLT, Int.reduceLT, Int.reduceLE, Int.reduceNeg, Int.reduceToNat, Int.reducePow, Int.reduceMul, Int.reduceAdd, Int.reduceSub, Bool.not_true, Bool.not_false, It.slots, E.slot, Nat.reduceBEq, Sc.d, Int.reduceEq, Nat.reduceEqDiff, List.headD_cons, d1, d2, d3, hw']
                  exact ⟨rfl, d :: r, v + worth c, _, _, _, by rw [List.all_cons, hall.1, hall.2]; rfl, rfl, rfl, hv'⟩
          · rintro en o' ⟨rfl, u, v, s3, s5, s6, hall, hr, rfl, hv⟩
            cases u with
            | nil =>
              have hv : v = lawRV t 0 := hv
              simp only [List.length_cons, List.length_nil, Nat.reduceAdd, Nat.reduceLeDiff, if_true, List.map_cons, List.map_nil, Nat.reduceSub, List.replicate_succ, List.replicate_zero, List.cons_append, List.nil_append, List.all_cons, List.all_nil, Bool.and_true, Bool.true_and, Bool.and_self, decide_true, decide_false, Bool.false_or, Bool.or_false, List.contains_nil, if_false, Bool.false_eq_true, le_big, nal_fz, nal_fz', nal_ex', E.isHole, run_eq, reduceIte, cnd_bl, sl_0, sl_s, rd_val, rd_own, rd_ownd, pass_fz, pass_ex, pass_al, bind_ok, bind_bad, out_ok, out_bad, seq_next, seq_ret, seq_brk, seq_cnt, seq_bad, ofO_some, ofO_none, ev_var, ev_int, ev_str, ev_bl, ev_non, ev_glb, ev_op, ngI_int, ev_neg, nt_bl, ev_not, ev_and, ev_or, ev_one, ev_ife, oc_bl, ev_chain, ev_call, ev_bi, ev_isi, ev_mt, ev_ix, ev_sl, toI_int, optI_t, optI_f, ev_lst, ev_tup, ev_nil, ev_cons, ss_nil_, ss_cons_, s_set, s_own, s_par, s_ife, s_for, s_whl, s_drop, s_app, obE_s, loop_1, loop_m, s_ret, s_retN, s_nev, s_brk, s_cnt, s_pass, outO_some, outO_none, lk_nil, lk_cons, st1_0, st1_s, put_fz, put_ex, put_own, putV_nil, putV_cons, putA_nil, putA_cons, fin_next, fin_ret, fin_bad, nal_fz, nal_ex, nal_fz, nal_ex, add_ii, sub_ii, lt_ii, le_ii, gt_ii, ge_ii, is_n, isNot_n, eq_ss, ne_ss, eq_ii, ne_ii, eq_ns, in_ss, notIn_ss, kd_add_i, kd_add_s, kd_add_l, kd_mul_i, kd_sub, kd_fdiv, kd_mod, kd_pow, kd_lt, kd_le, kd_gt, kd_ge, kd_eq, kd_ne, kd_is, kd_isn, kd_in, kd_nin, ix_l, ix_t, ix_scr, map_some_, map_none_, bindO_some, bindO_none, it_any, it_A_t, it_A_s, it_A_l, it_L_fz, it_L_ex, it_L_al, it_r1, it_r2, it_r3, it_enum, it_zip, it_zip3, it_zipA, it_Z_s, it_Z_l, ev_lc, lc_fr_n, lc_fr_v, lc_free, lc_tgIx_1, lc_tgIx_m, obE_R, lc_optK_t, lc_optK_f, lc_noExc_ok, lc_noExc_bad, lc_noExc_exc, lcB_1, lcB_2, lcB_3, isO_own, isO_y, onO_eq, onO_s, bi_len_l, bi_len_scr, bi_len_t, bi_abs, bi_all, bi_any, bi_list, bi_tuple, ix_sl_l, ix_sl_scr, ix_d, ev_dlit, put_ownd, kd_mul_s, kd_mul_l, kd_mul_t, kd_inQ, kd_notInQ, kd_addS, kd_addL, isNon_n, isN_bl, isN_int, isN_str, isN_lst, isN_tup, ty_int_n, ty_int_b, ty_int_i, ty_int_s, ty_int_l, ty_int_t, ty_int_scr, ty_int_d, ty_str_n, ty_str_b, ty_str_i, ty_str_s, ty_str_l, ty_str_t, ty_str_scr, ty_str_d, ty_bool_n, ty_bool_b, ty_bool_i, ty_bool_s, ty_bool_l, ty_bool_t, ty_bool_scr, ty_bool_d, ty_list_n, ty_list_b, ty_list_i, ty_list_s, ty_list_l, ty_list_t, ty_list_scr, ty_list_d, ty_tuple_n, ty_tuple_b, ty_tuple_i, ty_tuple_s, ty_tuple_l, ty_tuple_t, ty_tuple_scr, ty_tuple_d, mtr_split, mtr_join, mtr_starts, mtr_lstrip, mtr_indexS, mtr_indexL, mtr_count, mtr_get1, mtr_get2, eq_nn_, ne_nn_, eq_nb_, ne_nb_, eq_ni_, ne_ni_, eq_bn_, ne_bn_, eq_bb_, ne_bb_, eq_bi_, ne_bi_, eq_bs_, ne_bs_, eq_in_, ne_in_, eq_ib_, ne_ib_, eq_is_, ne_is_, eq_sn_, ne_sn_, eq_sb_, ne_sb_, eq_si_, ne_si_, ne_ns_, c_mul, c_fdiv, c_mod, c_pow, c_adds, c_addl, c_ixs, lt600, lt60, lt1000, c_rng1, c_rng2, c_rng3, c_len, c_str, c_int, c_starts, c_indexS, c_sls, Nat.reduceLT, Int.reduceLT, Int.reduceLE, Int.reduceNeg, Int.reduceToNat, Int.reducePow, Int.reduceMul, Int.reduceAdd, Int.reduceSub, Bool.not_true, Bool.not_false, It.slots, E.slot, Nat.reduceBEq, Sc.d, Int.reduceEq, Nat.reduceEqDiff, hend, hv]
            | cons c r => rw [List.tail_cons, zip_tail] at hr; cases hr
  · cases h
end
end B
end

section
set_option Elab.async false
set_option linter.all false
set_option maxRecDepth 100000
set_option maxHeartbeats 1000000
/-! N8: cells, small things. -/
namespace B
def cellAt (ns : List Int) (k : Nat) : Int := ns.getD k 0
def m__law_cell_at : List R → Objs → Rs R
  | [⟨.scr ns, .fz⟩, ⟨.int k, .fz⟩], o => if 0 ≤ k then .ok ⟨.int (cellAt ns k.toNat), .fz⟩ o else .bad
  | _, _ => .bad
theorem rr__law_cell_at (G : Sg) : ∀ rs o, (m__law_cell_at rs o).isBad = false → runDef G b__law_cell_at 2 rs o = m__law_cell_at rs o := by
  intro rs o h
  unfold m__law_cell_at at h
  split at h
  · refine ifBad h fun hp => ?_
    rename_i _ ns k
    obtain ⟨m, rfl⟩ := Int.eq_ofNat_of_zero_le hp
    rw [Int.toNat_natCast]
    unfold b__law_cell_at cellAt
    by_cases hm : m < ns.length
    · have hm' : decide ((m : Int) < (ns.length : Int)) = true := decide_eq_true (by omega)
      have e : atI ns (m : Int) = some (ns.getD m 0) := by
        unfold atI ixN
        rw [if_pos (by omega), if_pos (by omega), Int.toNat_natCast, List.getD_eq_getElem?_getD, List.getElem?_eq_getElem hm]
        show ns[m]? = _
        rw [List.getElem?_eq_getElem hm]; rfl
      simp (implicitDefEqProofs := false) only [List.length_cons, List.length_nil, Nat.reduceAdd, Nat.reduceLeDiff, if_true, List.map_cons, List.map_nil, Nat.reduceSub, List.replicate_succ, List.replicate_zero, List.cons_append, List.nil_append, List.all_cons, List.all_nil, Bool.and_true, Bool.true_and, Bool.and_self, decide_true, decide_false, Bool.false_or, Bool.or_false, List.contains_nil, if_false, Bool.false_eq_true, le_big, nal_fz, nal_fz', nal_ex', E.isHole, run_eq, reduceIte, cnd_bl, sl_0, sl_s, rd_val, rd_own, rd_ownd, pass_fz, pass_ex, pass_al, bind_ok, bind_bad, out_ok, out_bad, seq_next, seq_ret, seq_brk, seq_cnt, seq_bad, ofO_some, ofO_none, ev_var, ev_int, ev_str, ev_bl, ev_non, ev_glb, ev_op, ngI_int, ev_neg, nt_bl, ev_not, ev_and, ev_or, ev_one, ev_ife, oc_bl, ev_chain, ev_call, ev_bi, ev_isi, ev_mt, ev_ix, ev_sl, toI_int, optI_t, optI_f, ev_lst, ev_tup, ev_nil, ev_cons, ss_nil_, ss_cons_, s_set, s_own, s_par, s_ife, s_for, s_whl, s_drop, s_app, obE_s, loop_1, loop_m, s_ret, s_retN, s_nev, s_brk, s_cnt, s_pass, outO_some, outO_none, lk_nil, lk_cons, st1_0, st1_s, put_fz, put_ex, put_own, putV_nil, putV_cons, putA_nil, putA_cons, fin_next, fin_ret, fin_bad, nal_fz, nal_ex, nal_fz, nal_ex, add_ii, sub_ii, lt_ii, le_ii, gt_ii, ge_ii, is_n, isNot_n, eq_ss, ne_ss, eq_ii, ne_ii, eq_ns, in_ss, notIn_ss, kd_add_i, kd_add_s, kd_add_l, kd_mul_i, kd_sub, kd_fdiv, kd_mod, kd_pow, kd_lt, kd_le, kd_gt, kd_ge, kd_eq, kd_ne, kd_is, kd_isn, kd_in, kd_nin, ix_l, ix_t, ix_scr, map_some_, map_none_, bindO_some, bindO_none, it_any, it_A_t, it_A_s, it_A_l, it_L_fz, it_L_ex, it_L_al, it_r1, it_r2, it_r3, it_enum, it_zip, it_zip3, it_zipA, it_Z_s, it_Z_l, ev_lc, lc_fr_n, lc_fr_v, lc_free, lc_tgIx_1, lc_tgIx_m, obE_R, lc_optK_t, lc_optK_f, lc_noExc_ok, lc_noExc_bad, lc_noExc_exc, lcB_1, lcB_2, lcB_3, isO_own, isO_y, onO_eq, onO_s, bi_len_l, bi_len_scr, bi_len_t, bi_abs, bi_all, bi_any, bi_list, bi_tuple, ix_sl_l, ix_sl_scr, ix_d, ev_dlit, put_ownd, kd_mul_s, kd_mul_l, kd_mul_t, kd_inQ, kd_notInQ, kd_addS, kd_addL, isNon_n, isN_bl, isN_int, isN_str, isN_lst, isN_tup, ty_int_n, ty_int_b, ty_int_i, ty_int_s, ty_int_l, ty_int_t, ty_int_scr, ty_int_d, ty_str_n, ty_str_b, ty_str_i, ty_str_s, ty_str_l, ty_str_t, ty_str_scr, ty_str_d, ty_bool_n, ty_bool_b, ty_bool_i, ty_bool_s, ty_bool_l, ty_bool_t, ty_bool_scr, ty_bool_d, ty_list_n, ty_list_b, ty_list_i, ty_list_s, ty_list_l, ty_list_t, ty_list_scr, ty_list_d, ty_tuple_n, ty_tuple_b, ty_tuple_i, ty_tuple_s, ty_tuple_l, ty_tuple_t, ty_tuple_scr, ty_tuple_d, mtr_split, mtr_join, mtr_starts, mtr_lstrip, mtr_indexS, mtr_indexL, mtr_count, mtr_get1, mtr_get2, eq_nn_, ne_nn_, eq_nb_, ne_nb_, eq_ni_, ne_ni_, eq_bn_, ne_bn_, eq_bb_, ne_bb_, eq_bi_, ne_bi_, eq_bs_, ne_bs_, eq_in_, ne_in_, eq_ib_, ne_ib_, eq_is_, ne_is_, eq_sn_, ne_sn_, eq_sb_, ne_sb_, eq_si_, ne_si_, ne_ns_, c_mul, c_fdiv, c_mod, c_pow, c_adds, c_addl, c_ixs, lt600, lt60, lt1000, c_rng1, c_rng2, c_rng3, c_len, c_str, c_int, c_starts, c_indexS, c_sls, Nat.reduceLT, Int.reduceLT, Int.reduceLE, Int.reduceNeg, Int.reduceToNat, Int.reducePow, Int.reduceMul, Int.reduceAdd, Int.reduceSub, Bool.not_true, Bool.not_false, It.slots, E.slot, Nat.reduceBEq, Sc.d, Int.reduceEq, Nat.reduceEqDiff, hm', e]
    · have hm' : decide ((m : Int) < (ns.length : Int)) = false := decide_eq_false (by omega)
      have e : ns.getD m 0 = 0 := by
        rw [List.getD_eq_getElem?_getD, List.getElem?_eq_none (by omega)]; rfl
      simp (implicitDefEqProofs := false) only [List.length_cons, List.length_nil, Nat.reduceAdd, Nat.reduceLeDiff, if_true, List.map_cons, List.map_nil, Nat.reduceSub, List.replicate_succ, List.replicate_zero, List.cons_append, List.nil_append, List.all_cons, List.all_nil, Bool.and_true, Bool.true_and, Bool.and_self, decide_true, decide_false, Bool.false_or, Bool.or_false, List.contains_nil, if_false, Bool.false_eq_true, le_big, nal_fz, nal_fz', nal_ex', E.isHole, run_eq, reduceIte, cnd_bl, sl_0, sl_s, rd_val, rd_own, rd_ownd, pass_fz, pass_ex, pass_al, bind_ok, bind_bad, out_ok, out_bad, seq_next, seq_ret, seq_brk, seq_cnt, seq_bad, ofO_some, ofO_none, ev_var, ev_int, ev_str, ev_bl, ev_non, ev_glb, ev_op, ngI_int, ev_neg, nt_bl, ev_not, ev_and, ev_or, ev_one, ev_ife, oc_bl, ev_chain, ev_call, ev_bi, ev_isi, ev_mt, ev_ix, ev_sl, toI_int, optI_t, optI_f, ev_lst, ev_tup, ev_nil, ev_cons, ss_nil_, ss_cons_, s_set, s_own, s_par, s_ife, s_for, s_whl, s_drop, s_app, obE_s, loop_1, loop_m, s_ret, s_retN, s_nev, s_brk, s_cnt, s_pass, outO_some, outO_none, lk_nil, lk_cons, st1_0, st1_s, put_fz, put_ex, put_own, putV_nil, putV_cons, putA_nil, putA_cons, fin_next, fin_ret, fin_bad, nal_fz, nal_ex, nal_fz, nal_ex, add_ii, sub_ii, lt_ii, le_ii, gt_ii, ge_ii, is_n, isNot_n, eq_ss, ne_ss, eq_ii, ne_ii, eq_ns, in_ss, notIn_ss, kd_add_i, kd_add_s, kd_add_l, kd_mul_i, kd_sub, kd_fdiv, kd_mod, kd_pow, kd_lt, kd_le, kd_gt, kd_ge, kd_eq, kd_ne, kd_is, kd_isn, kd_in, kd_nin, ix_l, ix_t, ix_scr, map_some_, map_none_, bindO_some, bindO_none, it_any, it_A_t, it_A_s, it_A_l, it_L_fz, it_L_ex, it_L_al, it_r1, it_r2, it_r3, it_enum, it_zip, it_zip3, it_zipA, it_Z_s, it_Z_l, ev_lc, lc_fr_n, lc_fr_v, lc_free, lc_tgIx_1, lc_tgIx_m, obE_R, lc_optK_t, lc_optK_f, lc_noExc_ok, lc_noExc_bad, lc_noExc_exc, lcB_1, lcB_2, lcB_3, isO_own, isO_y, onO_eq, onO_s, bi_len_l, bi_len_scr, bi_len_t, bi_abs, bi_all, bi_any, bi_list, bi_tuple, ix_sl_l, ix_sl_scr, ix_d, ev_dlit, put_ownd, kd_mul_s, kd_mul_l, kd_mul_t, kd_inQ, kd_notInQ, kd_addS, kd_addL, isNon_n, isN_bl, isN_int, isN_str, isN_lst, isN_tup, ty_int_n, ty_int_b, ty_int_i, ty_int_s, ty_int_l, ty_int_t, ty_int_scr, ty_int_d, ty_str_n, ty_str_b, ty_str_i, ty_str_s, ty_str_l, ty_str_t, ty_str_scr, ty_str_d, ty_bool_n, ty_bool_b, ty_bool_i, ty_bool_s, ty_bool_l, ty_bool_t, ty_bool_scr, ty_bool_d, ty_list_n, ty_list_b, ty_list_i, ty_list_s, ty_list_l, ty_list_t, ty_list_scr, ty_list_d, ty_tuple_n, ty_tuple_b, ty_tuple_i, ty_tuple_s, ty_tuple_l, ty_tuple_t, ty_tuple_scr, ty_tuple_d, mtr_split, mtr_join, mtr_starts, mtr_lstrip, mtr_indexS, mtr_indexL, mtr_count, mtr_get1, mtr_get2, eq_nn_, ne_nn_, eq_nb_, ne_nb_, eq_ni_, ne_ni_, eq_bn_, ne_bn_, eq_bb_, ne_bb_, eq_bi_, ne_bi_, eq_bs_, ne_bs_, eq_in_, ne_in_, eq_ib_, ne_ib_, eq_is_, ne_is_, eq_sn_, ne_sn_, eq_sb_, ne_sb_, eq_si_, ne_si_, ne_ns_, c_mul, c_fdiv, c_mod, c_pow, c_adds, c_addl, c_ixs, lt600, lt60, lt1000, c_rng1, c_rng2, c_rng3, c_len, c_str, c_int, c_starts, c_indexS, c_sls, Nat.reduceLT, Int.reduceLT, Int.reduceLE, Int.reduceNeg, Int.reduceToNat, Int.reducePow, Int.reduceMul, Int.reduceAdd, Int.reduceSub, Bool.not_true, Bool.not_false, It.slots, E.slot, Nat.reduceBEq, Sc.d, Int.reduceEq, Nat.reduceEqDiff, hm', e]
  · cases h
theorem law_num (c k m : Int) (o : Objs) (h1 : 0 ≤ k) (h2 : k ≤ 1000000) (h3 : 0 < m) (h4 : m ≤ 1000000) : m__law_number [⟨.int c, .fz⟩, ⟨.int k, .fz⟩, ⟨.int m, .fz⟩] o = .ok ⟨.int (lawNum c k m), .fz⟩ o := if_pos ⟨h1, h2, h3, h4⟩
theorem cell_eq (ns : List Int) (k : Nat) (o : Objs) : m__law_cell_at [⟨.scr ns, .fz⟩, ⟨.int k, .fz⟩] o = .ok ⟨.int (cellAt ns k), .fz⟩ o := by
  show (if (0 : Int) ≤ (k : Int) then Rs.ok (⟨.int (cellAt ns (k : Int).toNat), .fz⟩ : R) o else .bad) = _
  rw [if_pos (by omega), Int.toNat_natCast]
theorem cut_len {α : Type} (xs : List α) (l h : Option Int) : (cut xs l h).length ≤ xs.length := by
  unfold cut
  rw [List.length_take, List.length_drop]; omega
theorem min_ex (i j : Int) : ∃ m, Bi.min.ev [.int i, .int j] = some ⟨.int m, .fz⟩ ∧ m = min i j := by
  refine ⟨_, rfl, ?_⟩
  split <;> omega
theorem max_ex (i j : Int) : ∃ m, Bi.max.ev [.int i, .int j] = some ⟨.int m, .fz⟩ ∧ m = max i j := by
  refine ⟨_, rfl, ?_⟩
  split <;> omega
theorem at_ex {α : Type} (s : List α) (i : Int) (h0 : 0 ≤ i) (h1 : i < s.length) : ∃ c, c ∈ s ∧ atI s i = some c := by
  obtain ⟨m, rfl⟩ := Int.eq_ofNat_of_zero_le h0
  have hm : m < s.length := by omega
  refine ⟨s[m], List.getElem_mem hm, ?_⟩
  unfold atI ixN
  rw [if_pos (by omega), if_pos (by omega), Int.toNat_natCast]
  show s[m]? = _
  rw [List.getElem?_eq_getElem hm]
theorem one_law (n : Int) (k : Txt) (h1 : 1 ≤ n) (h2 : n ≤ 3099) (hk : isK k) (o : Objs) : m__law_numeral [⟨.int n, .fz⟩, ⟨.str k, .fz⟩] o = .ok ⟨.str (numF n.toNat k), .fz⟩ o ∧ (numF n.toNat k).length ≤ 20 :=
  ⟨if_pos ⟨h1, h2, hk⟩, (num_ok n.toNat k (by omega) (by omega) hk).2.2.2⟩
theorem read_one (t k : Txt) (ht : t.length ≤ bigL) (hk : isK k) (o : Objs) : m_number_of [⟨.str t, .fz⟩, ⟨.str k, .fz⟩] o = .ok ⟨optD (numFrom t k), .fz⟩ o ∧ m__law_value [⟨.str t, .fz⟩, ⟨.str k, .fz⟩] o = .ok ⟨optD (numFrom t k), .fz⟩ o := ⟨if_pos ⟨ht, hk⟩, if_pos ⟨ht, hk⟩⟩
theorem ne_opt (x : Option Nat) : Op.neD.ev (optD x) (optD x) = some (.bl false) := by
  cases x with
  | none => rfl
  | some v =>
    show some (D.bl (!((v : Int) == (v : Int)))) = _
    rw [beq_self_eq_true]; rfl
theorem Step.mono {J J' : Env → Objs → Prop} {Z : Out → Prop} {y : Out} (hj : ∀ en o, J en o → J' en o) (hy : Step J Z y) : Step J' Z y := by
  cases y <;> first | exact hj _ _ hy | exact hy
end B
end

section
set_option Elab.async false
set_option linter.all false
set_option maxRecDepth 100000
set_option maxHeartbeats 2000000
/-! the law itself -/
namespace K02
open B
def m_law_2 : List R → Objs → Rs R
  | [⟨.scr _, .fz⟩], o => .ok ⟨.bl true, .fz⟩ o
  | _, _ => .bad
end K02
namespace K02
open B
def FN : Nat → List R → Objs → Rs R
  | 1 => m_numeral_of
  | 2 => m_value_of
  | 3 => m_number_from
  | 4 => m_check_kind
  | 6 => m_number_of
  | 14 => m__law_cell_at
  | 7 => m__law_draw
  | 8 => m__law_number
  | 9 => m__law_pow
  | 10 => m__law_numeral
  | 11 => m__law_value
  | 12 => m__law_whole
  | 15 => m_law_2
  | _ => fun _ _ => .bad
def G : Sg := ⟨FN, CT, fun _ _ => false⟩
theorem r_numeral_of : ∀ rs o, (m_numeral_of rs o).isBad = false → runDef G b_numeral_of 5 rs o = m_numeral_of rs o := rr_numeral_of G rfl rfl
theorem r_value_of : ∀ rs o, (m_value_of rs o).isBad = false → runDef G b_value_of 6 rs o = m_value_of rs o := rr_value_of G rfl rfl
theorem r_number_from : ∀ rs o, (m_number_from rs o).isBad = false → runDef G b_number_from 3 rs o = m_number_from rs o := rr_number_from G rfl rfl rfl
theorem r_check_kind : ∀ rs o, (m_check_kind rs o).isBad = false → runDef G b_check_kind 1 rs o = m_check_kind rs o := rr_check_kind G rfl
theorem r_number_of : ∀ rs o, (m_number_of rs o).isBad = false → runDef G b_number_of 2 rs o = m_number_of rs o := rr_number_of G rfl rfl
theorem r__law_cell_at : ∀ rs o, (m__law_cell_at rs o).isBad = false → runDef G b__law_cell_at 2 rs o = m__law_cell_at rs o := rr__law_cell_at G
theorem r__law_draw : ∀ rs o, (m__law_draw rs o).isBad = false → runDef G b__law_draw 4 rs o = m__law_draw rs o := rr__law_draw G
theorem r__law_number : ∀ rs o, (m__law_number rs o).isBad = false → runDef G b__law_number 4 rs o = m__law_number rs o := rr__law_number G rfl
theorem r__law_pow : ∀ rs o, (m__law_pow rs o).isBad = false → runDef G b__law_pow 3 rs o = m__law_pow rs o := rr__law_pow G
theorem r__law_numeral : ∀ rs o, (m__law_numeral rs o).isBad = false → runDef G b__law_numeral 12 rs o = m__law_numeral rs o := rr__law_numeral G rfl
theorem r__law_value : ∀ rs o, (m__law_value rs o).isBad = false → runDef G b__law_value 7 rs o = m__law_value rs o := rr__law_value G rfl
theorem r__law_whole : ∀ rs o, (m__law_whole rs o).isBad = false → runDef G b__law_whole 1 rs o = m__law_whole rs o := rr__law_whole G
def tl1 : Ss → Ss
  | .cons _ r => r
  | x => x
theorem tl1_c (s : S) (r : Ss) : tl1 (.cons s r) = r := rfl
def texts0 : List Txt := [[], [48], [48, 49], [51, 49, 48, 48], [97], [105, 105, 105, 105], [118, 120], [105, 99], [109, 109, 109, 109], [109, 109, 109, 120, 99, 105, 120], [99, 109, 99, 109], [120, 108, 120], [65], [49, 97], [101, 100, 117], [101, 100, 119], [100, 111, 101], [100, 111, 102], [109, 109, 109, 99], [49, 95, 48], [43, 55], [32, 55], [55, 32], [45, 55], [49, 101, 51], [55, 10], [97, 10], [123], [96], [105, 10], [97, 123], [96, 97]]
def p2D (p : Txt × Txt) : D := .tup [.str p.1, .str p.2]
def ends : List (Txt × Txt) := [(kF, [57]), (kL, [122]), (kR, [109])]
theorem ends_ok : ∀ p ∈ ends, isK p.1 ∧ p.2.length = 1 ∧ numFrom (List.replicate 4 p.2).flatten p.1 = none := by
  intro p hp
  simp only [ends, List.mem_cons, List.not_mem_nil, or_false] at hp
  rcases hp with rfl | rfl | rfl
  · exact ⟨by decide, rfl, by decide +kernel⟩
  · exact ⟨by decide, rfl, by decide +kernel⟩
  · exact ⟨by decide, rfl, by decide +kernel⟩
theorem hend (G : Sg) (f6 : G.fn 6 = m_number_of) (ns : List Int) (s1 s2 s3 s4 s5 s6 s7 s8 s9 s10 s11 : Slot) (o : Objs) : fin ((tl1 b_law_2).ev G [] [.val ⟨.scr ns, .fz⟩, s1, s2, s3, s4, s5, s6, s7, s8, s9, s10, s11] o) = Rs.ok (⟨.bl true, .fz⟩ : R) o := by
  unfold b_law_2
  rw [tl1_c]
  have hkF : ([102, 105, 103, 117, 114, 101, 115] : Txt) = kF := rfl
  have hkL : ([108, 101, 116, 116, 101, 114, 115] : Txt) = kL := rfl
  have hkR : ([114, 111, 109, 97, 110] : Txt) = kR := rfl
  have he : [D.tup [.str kF, .str [57]], .tup [.str kL, .str [122]], .tup [.str kR, .str [109]]] = ends.map p2D := rfl
  simp (implicitDefEqProofs := false) only [List.length_cons, List.length_nil, Nat.reduceAdd, Nat.reduceLeDiff, if_true, List.map_cons, List.map_nil, Nat.reduceSub, List.replicate_succ, List.replicate_zero, List.cons_append, List.nil_append, List.all_cons, List.all_nil, Bool.and_true, Bool.true_and, Bool.and_self, decide_true, decide_false, Bool.false_or, Bool.or_false, List.contains_nil, if_false, Bool.false_eq_true, le_big, nal_fz, nal_fz', nal_ex', E.isHole, run_eq, reduceIte, cnd_bl, sl_0, sl_s, rd_val, rd_own, rd_ownd, pass_fz, pass_ex, pass_al, bind_ok, bind_bad, out_ok, out_bad, seq_next, seq_ret, seq_brk, seq_cnt, seq_bad, ofO_some, ofO_none, ev_var, ev_int, ev_str, ev_bl, ev_non, ev_glb, ev_op, ngI_int, ev_neg, nt_bl, ev_not, ev_and, ev_or, ev_one, ev_ife, oc_bl, ev_chain, ev_call, ev_bi, ev_isi, ev_mt, ev_ix, ev_sl, toI_int, optI_t, optI_f, ev_lst, ev_tup, ev_nil, ev_cons, ss_nil_, ss_cons_, s_set, s_own, s_par, s_ife, s_for, s_whl, s_drop, s_app, obE_s, loop_1, loop_m, s_ret, s_retN, s_nev, s_brk, s_cnt, s_pass, outO_some, outO_none, lk_nil, lk_cons, st1_0, st1_s, put_fz, put_ex, put_own, putV_nil, putV_cons, putA_nil, putA_cons, fin_next, fin_ret, fin_bad, nal_fz, nal_ex, nal_fz, nal_ex, add_ii, sub_ii, lt_ii, le_ii, gt_ii, ge_ii, is_n, isNot_n, eq_ss, ne_ss, eq_ii, ne_ii, eq_ns, in_ss, notIn_ss, kd_add_i, kd_add_s, kd_add_l, kd_mul_i, kd_sub, kd_fdiv, kd_mod, kd_pow, kd_lt, kd_le, kd_gt, kd_ge, kd_eq, kd_ne, kd_is, kd_isn, kd_in, kd_nin, ix_l, ix_t, ix_scr, map_some_, map_none_, bindO_some, bindO_none, it_any, it_A_t, it_A_s, it_A_l, it_L_fz, it_L_ex, it_L_al, it_r1, it_r2, it_r3, it_enum, it_zip, it_zip3, it_zipA, it_Z_s, it_Z_l, ev_lc, lc_fr_n, lc_fr_v, lc_free, lc_tgIx_1, lc_tgIx_m, obE_R, lc_optK_t, lc_optK_f, lc_noExc_ok, lc_noExc_bad, lc_noExc_exc, lcB_1, lcB_2, lcB_3, isO_own, isO_y, onO_eq, onO_s, bi_len_l, bi_len_scr, bi_len_t, bi_abs, bi_all, bi_any, bi_list, bi_tuple, ix_sl_l, ix_sl_scr, ix_d, ev_dlit, put_ownd, kd_mul_s, kd_mul_l, kd_mul_t, kd_inQ, kd_notInQ, kd_addS, kd_addL, isNon_n, isN_bl, isN_int, isN_str, isN_lst, isN_tup, ty_int_n, ty_int_b, ty_int_i, ty_int_s, ty_int_l, ty_int_t, ty_int_scr, ty_int_d, ty_str_n, ty_str_b, ty_str_i, ty_str_s, ty_str_l, ty_str_t, ty_str_scr, ty_str_d, ty_bool_n, ty_bool_b, ty_bool_i, ty_bool_s, ty_bool_l, ty_bool_t, ty_bool_scr, ty_bool_d, ty_list_n, ty_list_b, ty_list_i, ty_list_s, ty_list_l, ty_list_t, ty_list_scr, ty_list_d, ty_tuple_n, ty_tuple_b, ty_tuple_i, ty_tuple_s, ty_tuple_l, ty_tuple_t, ty_tuple_scr, ty_tuple_d, mtr_split, mtr_join, mtr_starts, mtr_lstrip, mtr_indexS, mtr_indexL, mtr_count, mtr_get1, mtr_get2, eq_nn_, ne_nn_, eq_nb_, ne_nb_, eq_ni_, ne_ni_, eq_bn_, ne_bn_, eq_bb_, ne_bb_, eq_bi_, ne_bi_, eq_bs_, ne_bs_, eq_in_, ne_in_, eq_ib_, ne_ib_, eq_is_, ne_is_, eq_sn_, ne_sn_, eq_sb_, ne_sb_, eq_si_, ne_si_, ne_ns_, c_mul, c_fdiv, c_mod, c_pow, c_adds, c_addl, c_ixs, lt600, lt60, lt1000, c_rng1, c_rng2, c_rng3, c_len, c_str, c_int, c_starts, c_indexS, c_sls, Nat.reduceLT, Int.reduceLT, Int.reduceLE, Int.reduceNeg, Int.reduceToNat, Int.reducePow, Int.reduceMul, Int.reduceAdd, Int.reduceSub, Bool.not_true, Bool.not_false, It.slots, E.slot, Nat.reduceBEq, Sc.d, Int.reduceEq, Nat.reduceEqDiff, hkF, hkL, hkR]
  rw [he]
  refine for_walk p2D (fun rem en o' => o' = o ∧ (∀ p ∈ rem, p ∈ ends) ∧ ∃ s1 s2 s3 s4 s5 s6 s7 s8 s9 s10 s11, en = [.val ⟨.scr ns, .fz⟩, s1, s2, s3, s4, s5, s6, s7, s8, s9, s10, s11]) (fun x => fin (x.seq _) = _) ?_ ?_ ends _ _ ⟨rfl, fun p h => h, _, _, _, _, _, _, _, _, _, _, _, rfl⟩
  · rintro ⟨k, t⟩ r en o' ⟨rfl, hall, s1, s2, s3, s4, s5, s6, s7, s8, s9, s10, s11, rfl⟩
    obtain ⟨hk, hl, hn⟩ := ends_ok (k, t) (hall _ (by simp))
    have hall : ∀ p ∈ r, p ∈ ends := fun p hp => hall p (by simp [hp])
    have hl : t.length = 1 := hl
    have hk : isK k := hk
    have hn : numFrom (List.replicate 4 t).flatten k = none := hn
    have g1 : ∀ n, (List.replicate n t).flatten.length = n := fun n => by
      induction n with
      | zero => rfl
      | succ n ih => rw [List.replicate_succ, List.flatten_cons, List.length_append, ih, hl]; omega
    have e1 : Op.mul.ev (.str t) (.int 5000) = some (.str (List.replicate 5000 t).flatten) := if_pos (by rw [hl]; decide)
    have e2 : Op.mul.ev (.str t) (.int 4) = some (.str (List.replicate 4 t).flatten) := if_pos (by rw [hl]; decide)
    have e3 := (read_one (List.replicate 5000 t).flatten k (by rw [g1]; decide) hk o').1
    have e4 := (read_one (List.replicate 4 t).flatten k (by rw [g1]; decide) hk o').1
    have hn5 : numFrom (List.replicate 5000 t).flatten k = none := by unfold numFrom; rw [if_pos (by rw [g1]; decide)]
    rw [hn5] at e3
    rw [hn] at e4
    have e3 : m_number_of [⟨.str (List.replicate 5000 t).flatten, .fz⟩, ⟨.str k, .fz⟩] o' = .ok ⟨.non, .fz⟩ o' := e3
    have e4 : m_number_of [⟨.str (List.replicate 4 t).flatten, .fz⟩, ⟨.str k, .fz⟩] o' = .ok ⟨.non, .fz⟩ o' := e4
    generalize (List.replicate 5000 t).flatten = t5 at e1 e3
    generalize (List.replicate 4 t).flatten = t4 at e2 e4
    simp only [p2D]
    simp (implicitDefEqProofs := false) only [List.length_cons, List.length_nil, Nat.reduceAdd, Nat.reduceLeDiff, if_true, List.map_cons, List.map_nil, Nat.reduceSub, List.replicate_succ, List.replicate_zero, List.cons_append, List.nil_append, List.all_cons, List.all_nil, Bool.and_true, Bool.true_and, Bool.and_self, decide_true, decide_false, Bool.false_or, Bool.or_false, List.contains_nil, if_false, Bool.false_eq_true, le_big, nal_fz, nal_fz', nal_ex', E.isHole, run_eq, reduceIte, cnd_bl, sl_0, sl_s, rd_val, rd_own, rd_ownd, pass_fz, pass_ex, pass_al, bind_ok, bind_bad, out_ok, out_bad, seq_next, seq_ret, seq_brk, seq_cnt, seq_bad, ofO_some, ofO_none, ev_var, ev_int, ev_str, ev_bl, ev_non, ev_glb, ev_op, ngI_int, ev_neg, nt_bl, ev_not, ev_and, ev_or, ev_one, ev_ife, oc_bl, ev_chain, ev_call, ev_bi, ev_isi, ev_mt, ev_ix, ev_sl, toI_int, optI_t, optI_f, ev_lst, ev_tup, ev_nil, ev_cons, ss_nil_, ss_cons_, s_set, s_own, s_par, s_ife, s_for, s_whl, s_drop, s_app, obE_s, loop_1, loop_m, s_ret, s_retN, s_nev, s_brk, s_cnt, s_pass, outO_some, outO_none, lk_nil, lk_cons, st1_0, st1_s, put_fz, put_ex, put_own, putV_nil, putV_cons, putA_nil, putA_cons, fin_next, fin_ret, fin_bad, nal_fz, nal_ex, nal_fz, nal_ex, add_ii, sub_ii, lt_ii, le_ii, gt_ii, ge_ii, is_n, isNot_n, eq_ss, ne_ss, eq_ii, ne_ii, eq_ns, in_ss, notIn_ss, kd_add_i, kd_add_s, kd_add_l, kd_mul_i, kd_sub, kd_fdiv, kd_mod, kd_pow, kd_lt, kd_le, kd_gt, kd_ge, kd_eq, kd_ne, kd_is, kd_isn, kd_in, kd_nin, ix_l, ix_t, ix_scr, map_some_, map_none_, bindO_some, bindO_none, it_any, it_A_t, it_A_s, it_A_l, it_L_fz, it_L_ex, it_L_al, it_r1, it_r2, it_r3, it_enum, it_zip, it_zip3, it_zipA, it_Z_s, it_Z_l, ev_lc, lc_fr_n, lc_fr_v, lc_free, lc_tgIx_1, lc_tgIx_m, obE_R, lc_optK_t, lc_optK_f, lc_noExc_ok, lc_noExc_bad, lc_noExc_exc, lcB_1, lcB_2, lcB_3, isO_own, isO_y, onO_eq, onO_s, bi_len_l, bi_len_scr, bi_len_t, bi_abs, bi_all, bi_any, bi_list, bi_tuple, ix_sl_l, ix_sl_scr, ix_d, ev_dlit, put_ownd, kd_mul_s, kd_mul_l, kd_mul_t, kd_inQ, kd_notInQ, kd_addS, kd_addL, isNon_n, isN_bl, isN_int, isN_str, isN_lst, isN_tup, ty_int_n, ty_int_b, ty_int_i, ty_int_s, ty_int_l, ty_int_t, ty_int_scr, ty_int_d, ty_str_n, ty_str_b, ty_str_i, ty_str_s, ty_str_l, ty_str_t, ty_str_scr, ty_str_d, ty_bool_n, ty_bool_b, ty_bool_i, ty_bool_s, ty_bool_l, ty_bool_t, ty_bool_scr, ty_bool_d, ty_list_n, ty_list_b, ty_list_i, ty_list_s, ty_list_l, ty_list_t, ty_list_scr, ty_list_d, ty_tuple_n, ty_tuple_b, ty_tuple_i, ty_tuple_s, ty_tuple_l, ty_tuple_t, ty_tuple_scr, ty_tuple_d, mtr_split, mtr_join, mtr_starts, mtr_lstrip, mtr_indexS, mtr_indexL, mtr_count, mtr_get1, mtr_get2, eq_nn_, ne_nn_, eq_nb_, ne_nb_, eq_ni_, ne_ni_, eq_bn_, ne_bn_, eq_bb_, ne_bb_, eq_bi_, ne_bi_, eq_bs_, ne_bs_, eq_in_, ne_in_, eq_ib_, ne_ib_, eq_is_, ne_is_, eq_sn_, ne_sn_, eq_sb_, ne_sb_, eq_si_, ne_si_, ne_ns_, c_mul, c_fdiv, c_mod, c_pow, c_adds, c_addl, c_ixs, lt600, lt60, lt1000, c_rng1, c_rng2, c_rng3, c_len, c_str, c_int, c_starts, c_indexS, c_sls, Nat.reduceLT, Int.reduceLT, Int.reduceLE, Int.reduceNeg, Int.reduceToNat, Int.reducePow, Int.reduceMul, Int.reduceAdd, Int.reduceSub, Bool.not_true, Bool.not_false, It.slots, E.slot, Nat.reduceBEq, Sc.d, Int.reduceEq, Nat.reduceEqDiff, f6, e1, e2, e3, e4]
    exact ⟨rfl, hall, _, _, _, _, _, _, _, _, _, _, _, rfl⟩
  · rintro en o' ⟨rfl, -, s1, s2, s3, s4, s5, s6, s7, s8, s9, s10, s11, rfl⟩
    have n1 : numFrom [101, 100, 119] kL = none := by decide +kernel
    have n2 : numFrom [97, 98] kL = some 28 := by decide +kernel
    have e1 := (read_one [101, 100, 119] kL (by decide) (by decide) o').1
    have e2 := (read_one [97, 98] kL (by decide) (by decide) o').1
    rw [n1] at e1
    rw [n2] at e2
    have e1 : m_number_of [⟨.str [101, 100, 119], .fz⟩, ⟨.str kL, .fz⟩] o' = .ok ⟨.non, .fz⟩ o' := e1
    have e2 : m_number_of [⟨.str [97, 98], .fz⟩, ⟨.str kL, .fz⟩] o' = .ok ⟨.int 28, .fz⟩ o' := e2
    simp (implicitDefEqProofs := false) only [List.length_cons, List.length_nil, Nat.reduceAdd, Nat.reduceLeDiff, if_true, List.map_cons, List.map_nil, Nat.reduceSub, List.replicate_succ, List.replicate_zero, List.cons_append, List.nil_append, List.all_cons, List.all_nil, Bool.and_true, Bool.true_and, Bool.and_self, decide_true, decide_false, Bool.false_or, Bool.or_false, List.contains_nil, if_false, Bool.false_eq_true, le_big, nal_fz, nal_fz', nal_ex', E.isHole, run_eq, reduceIte, cnd_bl, sl_0, sl_s, rd_val, rd_own, rd_ownd, pass_fz, pass_ex, pass_al, bind_ok, bind_bad, out_ok, out_bad, seq_next, seq_ret, seq_brk, seq_cnt, seq_bad, ofO_some, ofO_none, ev_var, ev_int, ev_str, ev_bl, ev_non, ev_glb, ev_op, ngI_int, ev_neg, nt_bl, ev_not, ev_and, ev_or, ev_one, ev_ife, oc_bl, ev_chain, ev_call, ev_bi, ev_isi, ev_mt, ev_ix, ev_sl, toI_int, optI_t, optI_f, ev_lst, ev_tup, ev_nil, ev_cons, ss_nil_, ss_cons_, s_set, s_own, s_par, s_ife, s_for, s_whl, s_drop, s_app, obE_s, loop_1, loop_m, s_ret, s_retN, s_nev, s_brk, s_cnt, s_pass, outO_some, outO_none, lk_nil, lk_cons, st1_0, st1_s, put_fz, put_ex, put_own, putV_nil, putV_cons, putA_nil, putA_cons, fin_next, fin_ret, fin_bad, nal_fz, nal_ex, nal_fz, nal_ex, add_ii, sub_ii, lt_ii, le_ii, gt_ii, ge_ii, is_n, isNot_n, eq_ss, ne_ss, eq_ii, ne_ii, eq_ns, in_ss, notIn_ss, kd_add_i, kd_add_s, kd_add_l, kd_mul_i, kd_sub, kd_fdiv, kd_mod, kd_pow, kd_lt, kd_le, kd_gt, kd_ge, kd_eq, kd_ne, kd_is, kd_isn, kd_in, kd_nin, ix_l, ix_t, ix_scr, map_some_, map_none_, bindO_some, bindO_none, it_any, it_A_t, it_A_s, it_A_l, it_L_fz, it_L_ex, it_L_al, it_r1, it_r2, it_r3, it_enum, it_zip, it_zip3, it_zipA, it_Z_s, it_Z_l, ev_lc, lc_fr_n, lc_fr_v, lc_free, lc_tgIx_1, lc_tgIx_m, obE_R, lc_optK_t, lc_optK_f, lc_noExc_ok, lc_noExc_bad, lc_noExc_exc, lcB_1, lcB_2, lcB_3, isO_own, isO_y, onO_eq, onO_s, bi_len_l, bi_len_scr, bi_len_t, bi_abs, bi_all, bi_any, bi_list, bi_tuple, ix_sl_l, ix_sl_scr, ix_d, ev_dlit, put_ownd, kd_mul_s, kd_mul_l, kd_mul_t, kd_inQ, kd_notInQ, kd_addS, kd_addL, isNon_n, isN_bl, isN_int, isN_str, isN_lst, isN_tup, ty_int_n, ty_int_b, ty_int_i, ty_int_s, ty_int_l, ty_int_t, ty_int_scr, ty_int_d, ty_str_n, ty_str_b, ty_str_i, ty_str_s, ty_str_l, ty_str_t, ty_str_scr, ty_str_d, ty_bool_n, ty_bool_b, ty_bool_i, ty_bool_s, ty_bool_l, ty_bool_t, ty_bool_scr, ty_bool_d, ty_list_n, ty_list_b, ty_list_i, ty_list_s, ty_list_l, ty_list_t, ty_list_scr, ty_list_d, ty_tuple_n, ty_tuple_b, ty_tuple_i, ty_tuple_s, ty_tuple_l, ty_tuple_t, ty_tuple_scr, ty_tuple_d, mtr_split, mtr_join, mtr_starts, mtr_lstrip, mtr_indexS, mtr_indexL, mtr_count, mtr_get1, mtr_get2, eq_nn_, ne_nn_, eq_nb_, ne_nb_, eq_ni_, ne_ni_, eq_bn_, ne_bn_, eq_bb_, ne_bb_, eq_bi_, ne_bi_, eq_bs_, ne_bs_, eq_in_, ne_in_, eq_ib_, ne_ib_, eq_is_, ne_is_, eq_sn_, ne_sn_, eq_sb_, ne_sb_, eq_si_, ne_si_, ne_ns_, c_mul, c_fdiv, c_mod, c_pow, c_adds, c_addl, c_ixs, lt600, lt60, lt1000, c_rng1, c_rng2, c_rng3, c_len, c_str, c_int, c_starts, c_indexS, c_sls, Nat.reduceLT, Int.reduceLT, Int.reduceLE, Int.reduceNeg, Int.reduceToNat, Int.reducePow, Int.reduceMul, Int.reduceAdd, Int.reduceSub, Bool.not_true, Bool.not_false, It.slots, E.slot, Nat.reduceBEq, Sc.d, Int.reduceEq, Nat.reduceEqDiff, f6, e1, e2, show ((28 : Int) == 28) = true from rfl]
theorem rr_law_2 (G : Sg) (f6 : G.fn 6 = m_number_of) (f8 : G.fn 8 = m__law_number) (f10 : G.fn 10 = m__law_numeral) (f11 : G.fn 11 = m__law_value) (f12 : G.fn 12 = m__law_whole) (f14 : G.fn 14 = m__law_cell_at) : ∀ rs o, (m_law_2 rs o).isBad = false → runDef G b_law_2 12 rs o = m_law_2 rs o := by
  intro rs o h
  unfold m_law_2 at h
  split at h
  · rename_i _ _ ns
    show _ = Rs.ok (⟨.bl true, .fz⟩ : R) o
    unfold b_law_2
    generalize hT : Ss.cons (S.for (.many [5, 9]) _ _) _ = T
    have hTT : T = tl1 b_law_2 := by rw [← hT]; rfl
    clear hT
    subst hTT
    have hend := hend G f6 ns
    generalize tl1 b_law_2 = T at hend
    have hkF : ([102, 105, 103, 117, 114, 101, 115] : Txt) = kF := rfl
    have hkL : ([108, 101, 116, 116, 101, 114, 115] : Txt) = kL := rfl
    have hkR : ([114, 111, 109, 97, 110] : Txt) = kR := rfl
    obtain ⟨m1, b1, h1⟩ := min_ex 9 ns.length
    obtain ⟨m2, b2, h2⟩ := max_ex 1 m1
    obtain ⟨M, rfl⟩ := Int.eq_ofNat_of_zero_le (show 0 ≤ m2 by omega)
    have hM : M ≤ 9 := by omega
    have hr : itR2 ⟨.int 0, .fz⟩ ⟨.int M, .fz⟩ o = .ok (rngD 0 1 M, []) o := by
      rw [c_rng2 _ _ _ (by omega) (by omega) (by omega) (by omega)]; simp
    simp (implicitDefEqProofs := false) only [List.length_cons, List.length_nil, Nat.reduceAdd, Nat.reduceLeDiff, if_true, List.map_cons, List.map_nil, Nat.reduceSub, List.replicate_succ, List.replicate_zero, List.cons_append, List.nil_append, List.all_cons, List.all_nil, Bool.and_true, Bool.true_and, Bool.and_self, decide_true, decide_false, Bool.false_or, Bool.or_false, List.contains_nil, if_false, Bool.false_eq_true, le_big, nal_fz, nal_fz', nal_ex', E.isHole, run_eq, reduceIte, cnd_bl, sl_0, sl_s, rd_val, rd_own, rd_ownd, pass_fz, pass_ex, pass_al, bind_ok, bind_bad, out_ok, out_bad, seq_next, seq_ret, seq_brk, seq_cnt, seq_bad, ofO_some, ofO_none, ev_var, ev_int, ev_str, ev_bl, ev_non, ev_glb, ev_op, ngI_int, ev_neg, nt_bl, ev_not, ev_and, ev_or, ev_one, ev_ife, oc_bl, ev_chain, ev_call, ev_bi, ev_isi, ev_mt, ev_ix, ev_sl, toI_int, optI_t, optI_f, ev_lst, ev_tup, ev_nil, ev_cons, ss_nil_, ss_cons_, s_set, s_own, s_par, s_ife, s_for, s_whl, s_drop, s_app, obE_s, loop_1, loop_m, s_ret, s_retN, s_nev, s_brk, s_cnt, s_pass, outO_some, outO_none, lk_nil, lk_cons, st1_0, st1_s, put_fz, put_ex, put_own, putV_nil, putV_cons, putA_nil, putA_cons, fin_next, fin_ret, fin_bad, nal_fz, nal_ex, nal_fz, nal_ex, add_ii, sub_ii, lt_ii, le_ii, gt_ii, ge_ii, is_n, isNot_n, eq_ss, ne_ss, eq_ii, ne_ii, eq_ns, in_ss, notIn_ss, kd_add_i, kd_add_s, kd_add_l, kd_mul_i, kd_sub, kd_fdiv, kd_mod, kd_pow, kd_lt, kd_le, kd_gt, kd_ge, kd_eq, kd_ne, kd_is, kd_isn, kd_in, kd_nin, ix_l, ix_t, ix_scr, map_some_, map_none_, bindO_some, bindO_none, it_any, it_A_t, it_A_s, it_A_l, it_L_fz, it_L_ex, it_L_al, it_r1, it_r2, it_r3, it_enum, it_zip, it_zip3, it_zipA, it_Z_s, it_Z_l, ev_lc, lc_fr_n, lc_fr_v, lc_free, lc_tgIx_1, lc_tgIx_m, obE_R, lc_optK_t, lc_optK_f, lc_noExc_ok, lc_noExc_bad, lc_noExc_exc, lcB_1, lcB_2, lcB_3, isO_own, isO_y, onO_eq, onO_s, bi_len_l, bi_len_scr, bi_len_t, bi_abs, bi_all, bi_any, bi_list, bi_tuple, ix_sl_l, ix_sl_scr, ix_d, ev_dlit, put_ownd, kd_mul_s, kd_mul_l, kd_mul_t, kd_inQ, kd_notInQ, kd_addS, kd_addL, isNon_n, isN_bl, isN_int, isN_str, isN_lst, isN_tup, ty_int_n, ty_int_b, ty_int_i, ty_int_s, ty_int_l, ty_int_t, ty_int_scr, ty_int_d, ty_str_n, ty_str_b, ty_str_i, ty_str_s, ty_str_l, ty_str_t, ty_str_scr, ty_str_d, ty_bool_n, ty_bool_b, ty_bool_i, ty_bool_s, ty_bool_l, ty_bool_t, ty_bool_scr, ty_bool_d, ty_list_n, ty_list_b, ty_list_i, ty_list_s, ty_list_l, ty_list_t, ty_list_scr, ty_list_d, ty_tuple_n, ty_tuple_b, ty_tuple_i, ty_tuple_s, ty_tuple_l, ty_tuple_t, ty_tuple_scr, ty_tuple_d, mtr_split, mtr_join, mtr_starts, mtr_lstrip, mtr_indexS, mtr_indexL, mtr_count, mtr_get1, mtr_get2, eq_nn_, ne_nn_, eq_nb_, ne_nb_, eq_ni_, ne_ni_, eq_bn_, ne_bn_, eq_bb_, ne_bb_, eq_bi_, ne_bi_, eq_bs_, ne_bs_, eq_in_, ne_in_, eq_ib_, ne_ib_, eq_is_, ne_is_, eq_sn_, ne_sn_, eq_sb_, ne_sb_, eq_si_, ne_si_, ne_ns_, c_mul, c_fdiv, c_mod, c_pow, c_adds, c_addl, c_ixs, lt600, lt60, lt1000, c_rng1, c_rng2, c_rng3, c_len, c_str, c_int, c_starts, c_indexS, c_sls, Nat.reduceLT, Int.reduceLT, Int.reduceLE, Int.reduceNeg, Int.reduceToNat, Int.reducePow, Int.reduceMul, Int.reduceAdd, Int.reduceSub, Bool.not_true, Bool.not_false, It.slots, E.slot, Nat.reduceBEq, Sc.d, Int.reduceEq, Nat.reduceEqDiff, b1, b2, hr]
    refine rng_walk M 0 (fun i en o' => o' = o ∧ ∃ (s1 s2 s3 s4 s5 s6 s7 s8 s9 s10 s11 : Slot), en = [.val ⟨.scr ns, .fz⟩, s1, s2, s3, s4, s5, s6, s7, s8, s9, s10, s11]) (fun x => fin (x.seq _) = _) ?_ ?_ _ _ ⟨rfl, _, _, _, _, _, _, _, _, _, _, _, rfl⟩
    · rintro i en o' hi ⟨rfl, s1, s2, s3, s4, s5, s6, s7, s8, s9, s10, s11, rfl⟩
      have q0 : (0 : Int) + (i : Int) = (i : Int) := by omega
      rw [q0]
      have c1 := cell_eq ns i o'
      generalize cellAt ns i = c at c1
      have y1 := law_num c i 3099 o' (by omega) (by omega) (by decide) (by decide)
      have z1 := lawNum_lt c i 3099 (by decide)
      generalize lawNum c i 3099 = v1 at y1 z1
      simp (implicitDefEqProofs := false) only [List.length_cons, List.length_nil, Nat.reduceAdd, Nat.reduceLeDiff, if_true, List.map_cons, List.map_nil, Nat.reduceSub, List.replicate_succ, List.replicate_zero, List.cons_append, List.nil_append, List.all_cons, List.all_nil, Bool.and_true, Bool.true_and, Bool.and_self, decide_true, decide_false, Bool.false_or, Bool.or_false, List.contains_nil, if_false, Bool.false_eq_true, le_big, nal_fz, nal_fz', nal_ex', E.isHole, run_eq, reduceIte, cnd_bl, sl_0, sl_s, rd_val, rd_own, rd_ownd, pass_fz, pass_ex, pass_al, bind_ok, bind_bad, out_ok, out_bad, seq_next, seq_ret, seq_brk, seq_cnt, seq_bad, ofO_some, ofO_none, ev_var, ev_int, ev_str, ev_bl, ev_non, ev_glb, ev_op, ngI_int, ev_neg, nt_bl, ev_not, ev_and, ev_or, ev_one, ev_ife, oc_bl, ev_chain, ev_call, ev_bi, ev_isi, ev_mt, ev_ix, ev_sl, toI_int, optI_t, optI_f, ev_lst, ev_tup, ev_nil, ev_cons, ss_nil_, ss_cons_, s_set, s_own, s_par, s_ife, s_for, s_whl, s_drop, s_app, obE_s, loop_1, loop_m, s_ret, s_retN, s_nev, s_brk, s_cnt, s_pass, outO_some, outO_none, lk_nil, lk_cons, st1_0, st1_s, put_fz, put_ex, put_own, putV_nil, putV_cons, putA_nil, putA_cons, fin_next, fin_ret, fin_bad, nal_fz, nal_ex, nal_fz, nal_ex, add_ii, sub_ii, lt_ii, le_ii, gt_ii, ge_ii, is_n, isNot_n, eq_ss, ne_ss, eq_ii, ne_ii, eq_ns, in_ss, notIn_ss, kd_add_i, kd_add_s, kd_add_l, kd_mul_i, kd_sub, kd_fdiv, kd_mod, kd_pow, kd_lt, kd_le, kd_gt, kd_ge, kd_eq, kd_ne, kd_is, kd_isn, kd_in, kd_nin, ix_l, ix_t, ix_scr, map_some_, map_none_, bindO_some, bindO_none, it_any, it_A_t, it_A_s, it_A_l, it_L_fz, it_L_ex, it_L_al, it_r1, it_r2, it_r3, it_enum, it_zip, it_zip3, it_zipA, it_Z_s, it_Z_l, ev_lc, lc_fr_n, lc_fr_v, lc_free, lc_tgIx_1, lc_tgIx_m, obE_R, lc_optK_t, lc_optK_f, lc_noExc_ok, lc_noExc_bad, lc_noExc_exc, lcB_1, lcB_2, lcB_3, isO_own, isO_y, onO_eq, onO_s, bi_len_l, bi_len_scr, bi_len_t, bi_abs, bi_all, bi_any, bi_list, bi_tuple, ix_sl_l, ix_sl_scr, ix_d, ev_dlit, put_ownd, kd_mul_s, kd_mul_l, kd_mul_t, kd_inQ, kd_notInQ, kd_addS, kd_addL, isNon_n, isN_bl, isN_int, isN_str, isN_lst, isN_tup, ty_int_n, ty_int_b, ty_int_i, ty_int_s, ty_int_l, ty_int_t, ty_int_scr, ty_int_d, ty_str_n, ty_str_b, ty_str_i, ty_str_s, ty_str_l, ty_str_t, ty_str_scr, ty_str_d, ty_bool_n, ty_bool_b, ty_bool_i, ty_bool_s, ty_bool_l, ty_bool_t, ty_bool_scr, ty_bool_d, ty_list_n, ty_list_b, ty_list_i, ty_list_s, ty_list_l, ty_list_t, ty_list_scr, ty_list_d, ty_tuple_n, ty_tuple_b, ty_tuple_i, ty_tuple_s, ty_tuple_l, ty_tuple_t, ty_tuple_scr, ty_tuple_d, mtr_split, mtr_join, mtr_starts, mtr_lstrip, mtr_indexS, mtr_indexL, mtr_count, mtr_get1, mtr_get2, eq_nn_, ne_nn_, eq_nb_, ne_nb_, eq_ni_, ne_ni_, eq_bn_, ne_bn_, eq_bb_, ne_bb_, eq_bi_, ne_bi_, eq_bs_, ne_bs_, eq_in_, ne_in_, eq_ib_, ne_ib_, eq_is_, ne_is_, eq_sn_, ne_sn_, eq_sb_, ne_sb_, eq_si_, ne_si_, ne_ns_, c_mul, c_fdiv, c_mod, c_pow, c_adds, c_addl, c_ixs, lt600, lt60, lt1000, c_rng1, c_rng2, c_rng3, c_len, c_str, c_int, c_starts, c_indexS, c_sls, Nat.reduceLT, Int.reduceLT, Int.reduceLE, Int.reduceNeg, Int.reduceToNat, Int.reducePow, Int.reduceMul, Int.reduceAdd, Int.reduceSub, Bool.not_true, Bool.not_false, It.slots, E.slot, Nat.reduceBEq, Sc.d, Int.reduceEq, Nat.reduceEqDiff, f14, c1, f8, y1, hkF, hkL, hkR]
      refine for_walk D.str (fun rem en o2 => o2 = o' ∧ (∀ k ∈ rem, isK k) ∧ ∃ (T : List Txt) (s5 s6 s7 s8 s9 s10 s11 : Slot), (∀ t ∈ T, t.length ≤ 50) ∧ T.length + 3 * rem.length ≤ 60 ∧ en = [.val ⟨.scr ns, .fz⟩, .val ⟨.int i, .fz⟩, .val ⟨.int c, .fz⟩, .val ⟨.lst (T.map D.str), .fz⟩, .val ⟨.int (1 + v1), .fz⟩, s5, s6, s7, s8, s9, s10, s11]) (fun x => Step _ _ (x.seq _)) ?_ ?_ [kF, kL, kR] _ _ ⟨rfl, by decide, texts0, _, _, _, _, _, _, _, by decide, by decide, rfl⟩
      · rintro k r en o2 ⟨rfl, hall, T, s5, s6, s7, s8, s9, s10, s11, hT, hTl, rfl⟩
        have hk := hall k (by simp)
        have hall : ∀ k ∈ r, isK k := fun k hk => hall k (by simp [hk])
        obtain ⟨x1, x2⟩ := one_law (1 + v1) k (by omega) (by omega) hk o2
        generalize numF (1 + v1).toNat k = t at x1 x2
        have el : Bi.len.ev [.str t] = some ⟨.int t.length, .fz⟩ := c_len (by show _ ≤ 1000000; omega)
        have y2 := law_num c (i + 1) (t.length + 1) o2 (by omega) (by omega) (by omega) (by omega)
        have y3 := law_num c (i + 2) 13 o2 (by omega) (by omega) (by omega) (by omega)
        have z3 := lawNum_lt c (i + 2) 13 (by decide)
        generalize lawNum c (i + 1) (t.length + 1) = v2 at y2
        generalize lawNum c (i + 2) 13 = v3 at y3 z3
        obtain ⟨ch, -, hch⟩ := at_ex [105, 118, 120, 108, 99, 100, 109, 48, 49, 53, 57, 97, 122] v3 z3.1 (by simpa using z3.2)
        have hix : ixEv (.str [105, 118, 120, 108, 99, 100, 109, 48, 49, 53, 57, 97, 122]) (.int v3) = some ⟨.str [ch], .fz⟩ := by
          rw [c_ixs (by decide), hch]; rfl
        have hs : ∀ l h, slEv (.str t) l h = some ⟨.str (cut t l h), .fz⟩ := fun l h => c_sls _ _ (by show _ ≤ 1000000; omega)
        have l1 := cut_len t none (some v2)
        have l2 := cut_len t (some v2) none
        have l3 := cut_len t (some (v2 + 1)) none
        generalize ha : cut t none (some v2) = A at l1
        generalize hb : cut t (some v2) none = B at l2
        generalize hc : cut t (some (v2 + 1)) none = C at l3
        have d1 : Op.add.ev (.str A) (.str [ch]) = some (.str (A ++ [ch])) := c_adds (by show _ + 1 ≤ 1000000; omega)
        have d2 : Op.add.ev (.str (A ++ [ch])) (.str B) = some (.str (A ++ [ch] ++ B)) := c_adds (by rw [List.length_append]; show _ + 1 + _ ≤ 1000000; omega)
        have d3 : Op.add.ev (.str A) (.str C) = some (.str (A ++ C)) := c_adds (by show _ ≤ 1000000; omega)
        have d4 : Op.add.ev (.str (A ++ [ch])) (.str C) = some (.str (A ++ [ch] ++ C)) := c_adds (by rw [List.length_append]; show _ + 1 + _ ≤ 1000000; omega)
        have d5 : Op.add.ev (.lst (T.map D.str)) (.lst [.str (A ++ [ch] ++ B), .str (A ++ C), .str (A ++ [ch] ++ C)]) = some (.lst ((T ++ [A ++ [ch] ++ B, A ++ C, A ++ [ch] ++ C]).map D.str)) := by
          rw [c_addl (by rw [List.length_map]; show _ + 3 ≤ 1000000; simp only [List.length_cons] at hTl; omega), List.map_append]; rfl
        have d5' := d5
        generalize hu1 : A ++ [ch] ++ B = u1 at d2 d5
        generalize hu2 : A ++ C = u2 at d3 d5
        generalize hu3 : A ++ [ch] ++ C = u3 at d4 d5
        generalize hu4 : A ++ [ch] = u4 at d1 d2 d4
        generalize hT' : T ++ [u1, u2, u3] = T' at d5
        simp (implicitDefEqProofs := false) only [List.length_cons, List.length_nil, Nat.reduceAdd, Nat.reduceLeDiff, if_true, List.map_cons, List.map_nil, Nat.reduceSub, List.replicate_succ, List.replicate_zero, List.cons_append, List.nil_append, List.all_cons, List.all_nil, Bool.and_true, Bool.true_and, Bool.and_self, decide_true, decide_false, Bool.false_or, Bool.or_false, List.contains_nil, if_false, Bool.false_eq_true, le_big, nal_fz, nal_fz', nal_ex', E.isHole, run_eq, reduceIte, cnd_bl, sl_0, sl_s, rd_val, rd_own, rd_ownd, pass_fz, pass_ex, pass_al, bind_ok, bind_bad, out_ok, out_bad, seq_next, seq_ret, seq_brk, seq_cnt, seq_bad, ofO_some, ofO_none, ev_var, ev_int, ev_str, ev_bl, ev_non, ev_glb, ev_op, ngI_int, ev_neg, nt_bl, ev_not, ev_and, ev_or, ev_one, ev_ife, oc_bl, ev_chain, ev_call, ev_bi, ev_isi, ev_mt, ev_ix, ev_sl, toI_int, optI_t, optI_f, ev_lst, ev_tup, ev_nil, ev_cons, ss_nil_, ss_cons_, s_set, s_own, s_par, s_ife, s_for, s_whl, s_drop, s_app, obE_s, loop_1, loop_m, s_ret, s_retN, s_nev, s_brk, s_cnt, s_pass, outO_some, outO_none, lk_nil, lk_cons, st1_0, st1_s, put_fz, put_ex, put_own, putV_nil, putV_cons, putA_nil, putA_cons, fin_next, fin_ret, fin_bad, nal_fz, nal_ex, nal_fz, nal_ex, add_ii, sub_ii, lt_ii, le_ii, gt_ii, ge_ii, is_n, isNot_n, eq_ss, ne_ss, eq_ii, ne_ii, eq_ns, in_ss, notIn_ss, kd_add_i, kd_add_s, kd_add_l, kd_mul_i, kd_sub, kd_fdiv, kd_mod, kd_pow, kd_lt, kd_le, kd_gt, kd_ge, kd_eq, kd_ne, kd_is, kd_isn, kd_in, kd_nin, ix_l, ix_t, ix_scr, map_some_, map_none_, bindO_some, bindO_none, it_any, it_A_t, it_A_s, it_A_l, it_L_fz, it_L_ex, it_L_al, it_r1, it_r2, it_r3, it_enum, it_zip, it_zip3, it_zipA, it_Z_s, it_Z_l, ev_lc, lc_fr_n, lc_fr_v, lc_free, lc_tgIx_1, lc_tgIx_m, obE_R, lc_optK_t, lc_optK_f, lc_noExc_ok, lc_noExc_bad, lc_noExc_exc, lcB_1, lcB_2, lcB_3, isO_own, isO_y, onO_eq, onO_s, bi_len_l, bi_len_scr, bi_len_t, bi_abs, bi_all, bi_any, bi_list, bi_tuple, ix_sl_l, ix_sl_scr, ix_d, ev_dlit, put_ownd, kd_mul_s, kd_mul_l, kd_mul_t, kd_inQ, kd_notInQ, kd_addS, kd_addL, isNon_n, isN_bl, isN_int, isN_str, isN_lst, isN_tup, ty_int_n, ty_int_b, ty_int_i, ty_int_s, ty_int_l, ty_int_t, ty_int_scr, ty_int_d, ty_str_n, ty_str_b, ty_str_i, ty_str_s, ty_str_l, ty_str_t, ty_str_scr, ty_str_d, ty_bool_n, ty_bool_b, ty_bool_i, ty_bool_s, ty_bool_l, ty_bool_t, ty_bool_scr, ty_bool_d, ty_list_n, ty_list_b, ty_list_i, ty_list_s, ty_list_l, ty_list_t, ty_list_scr, ty_list_d, ty_tuple_n, ty_tuple_b, ty_tuple_i, ty_tuple_s, ty_tuple_l, ty_tuple_t, ty_tuple_scr, ty_tuple_d, mtr_split, mtr_join, mtr_starts, mtr_lstrip, mtr_indexS, mtr_indexL, mtr_count, mtr_get1, mtr_get2, eq_nn_, ne_nn_, eq_nb_, ne_nb_, eq_ni_, ne_ni_, eq_bn_, ne_bn_, eq_bb_, ne_bb_, eq_bi_, ne_bi_, eq_bs_, ne_bs_, eq_in_, ne_in_, eq_ib_, ne_ib_, eq_is_, ne_is_, eq_sn_, ne_sn_, eq_sb_, ne_sb_, eq_si_, ne_si_, ne_ns_, c_mul, c_fdiv, c_mod, c_pow, c_adds, c_addl, c_ixs, lt600, lt60, lt1000, c_rng1, c_rng2, c_rng3, c_len, c_str, c_int, c_starts, c_indexS, c_sls, Nat.reduceLT, Int.reduceLT, Int.reduceLE, Int.reduceNeg, Int.reduceToNat, Int.reducePow, Int.reduceMul, Int.reduceAdd, Int.reduceSub, Bool.not_true, Bool.not_false, It.slots, E.slot, Nat.reduceBEq, Sc.d, Int.reduceEq, Nat.reduceEqDiff, f10, f8, x1, el, y2, y3, hix, hs, ha, hb, hc, d1, d2, d3, d4, d5]
        refine ⟨rfl, hall, T', _, _, _, _, _, _, _, ?_, ?_, rfl⟩
        · intro t ht
          rw [← hT'] at ht
          rw [List.mem_append] at ht
          rcases ht with ht | ht
          · exact hT t ht
          · simp only [List.mem_cons, List.not_mem_nil, or_false] at ht
            rcases ht with rfl | rfl | rfl
            · rw [← hu1]; simp; omega
            · rw [← hu2]; simp; omega
            · rw [← hu3]; simp; omega
        · rw [← hT']
          simp only [List.length_cons, List.length_append, List.length_nil] at hTl ⊢
          omega
      · rintro en o2 ⟨rfl, -, T, s5, s6, s7, s8, s9, s10, s11, hT, hTl, rfl⟩
        have y2 := law_num c (i + 3) 6 o2 (by omega) (by omega) (by omega) (by omega)
        have z2 := lawNum_lt c (i + 3) 6 (by decide)
        generalize lawNum c (i + 3) 6 = v2 at y2 z2
        obtain ⟨N, rfl⟩ := Int.eq_ofNat_of_zero_le z2.1
        have hr : itR1 ⟨.int N, .fz⟩ o2 = .ok (rngD 0 1 N, []) o2 := by
          rw [c_rng1 _ _ (by omega) (by omega)]; simp
        simp (implicitDefEqProofs := false) only [List.length_cons, List.length_nil, Nat.reduceAdd, Nat.reduceLeDiff, if_true, List.map_cons, List.map_nil, Nat.reduceSub, List.replicate_succ, List.replicate_zero, List.cons_append, List.nil_append, List.all_cons, List.all_nil, Bool.and_true, Bool.true_and, Bool.and_self, decide_true, decide_false, Bool.false_or, Bool.or_false, List.contains_nil, if_false, Bool.false_eq_true, le_big, nal_fz, nal_fz', nal_ex', E.isHole, run_eq, reduceIte, cnd_bl, sl_0, sl_s, rd_val, rd_own, rd_ownd, pass_fz, pass_ex, pass_al, bind_ok, bind_bad, out_ok, out_bad, seq_next, seq_ret, seq_brk, seq_cnt, seq_bad, ofO_some, ofO_none, ev_var, ev_int, ev_str, ev_bl, ev_non, ev_glb, ev_op, ngI_int, ev_neg, nt_bl, ev_not, ev_and, ev_or, ev_one, ev_ife, oc_bl, ev_chain, ev_call, ev_bi, ev_isi, ev_mt, ev_ix, ev_sl, toI_int, optI_t, optI_f, ev_lst, ev_tup, ev_nil, ev_cons, ss_nil_, ss_cons_, s_set, s_own, s_par, s_ife, s_for, s_whl, s_drop, s_app, obE_s, loop_1, loop_m, s_ret, s_retN, s_nev, s_brk, s_cnt, s_pass, outO_some, outO_none, lk_nil, lk_cons, st1_0, st1_s, put_fz, put_ex, put_own, putV_nil, putV_cons, putA_nil, putA_cons, fin_next, fin_ret, fin_bad, nal_fz, nal_ex, nal_fz, nal_ex, add_ii, sub_ii, lt_ii, le_ii, gt_ii, ge_ii, is_n, isNot_n, eq_ss, ne_ss, eq_ii, ne_ii, eq_ns, in_ss, notIn_ss, kd_add_i, kd_add_s, kd_add_l, kd_mul_i, kd_sub, kd_fdiv, kd_mod, kd_pow, kd_lt, kd_le, kd_gt, kd_ge, kd_eq, kd_ne, kd_is, kd_isn, kd_in, kd_nin, ix_l, ix_t, ix_scr, map_some_, map_none_, bindO_some, bindO_none, it_any, it_A_t, it_A_s, it_A_l, it_L_fz, it_L_ex, it_L_al, it_r1, it_r2, it_r3, it_enum, it_zip, it_zip3, it_zipA, it_Z_s, it_Z_l, ev_lc, lc_fr_n, lc_fr_v, lc_free, lc_tgIx_1, lc_tgIx_m, obE_R, lc_optK_t, lc_optK_f, lc_noExc_ok, lc_noExc_bad, lc_noExc_exc, lcB_1, lcB_2, lcB_3, isO_own, isO_y, onO_eq, onO_s, bi_len_l, bi_len_scr, bi_len_t, bi_abs, bi_all, bi_any, bi_list, bi_tuple, ix_sl_l, ix_sl_scr, ix_d, ev_dlit, put_ownd, kd_mul_s, kd_mul_l, kd_mul_t, kd_inQ, kd_notInQ, kd_addS, kd_addL, isNon_n, isN_bl, isN_int, isN_str, isN_lst, isN_tup, ty_int_n, ty_int_b, ty_int_i, ty_int_s, ty_int_l, ty_int_t, ty_int_scr, ty_int_d, ty_str_n, ty_str_b, ty_str_i, ty_str_s, ty_str_l, ty_str_t, ty_str_scr, ty_str_d, ty_bool_n, ty_bool_b, ty_bool_i, ty_bool_s, ty_bool_l, ty_bool_t, ty_bool_scr, ty_bool_d, ty_list_n, ty_list_b, ty_list_i, ty_list_s, ty_list_l, ty_list_t, ty_list_scr, ty_list_d, ty_tuple_n, ty_tuple_b, ty_tuple_i, ty_tuple_s, ty_tuple_l, ty_tuple_t, ty_tuple_scr, ty_tuple_d, mtr_split, mtr_join, mtr_starts, mtr_lstrip, mtr_indexS, mtr_indexL, mtr_count, mtr_get1, mtr_get2, eq_nn_, ne_nn_, eq_nb_, ne_nb_, eq_ni_, ne_ni_, eq_bn_, ne_bn_, eq_bb_, ne_bb_, eq_bi_, ne_bi_, eq_bs_, ne_bs_, eq_in_, ne_in_, eq_ib_, ne_ib_, eq_is_, ne_is_, eq_sn_, ne_sn_, eq_sb_, ne_sb_, eq_si_, ne_si_, ne_ns_, c_mul, c_fdiv, c_mod, c_pow, c_adds, c_addl, c_ixs, lt600, lt60, lt1000, c_rng1, c_rng2, c_rng3, c_len, c_str, c_int, c_starts, c_indexS, c_sls, Nat.reduceLT, Int.reduceLT, Int.reduceLE, Int.reduceNeg, Int.reduceToNat, Int.reducePow, Int.reduceMul, Int.reduceAdd, Int.reduceSub, Bool.not_true, Bool.not_false, It.slots, E.slot, Nat.reduceBEq, Sc.d, Int.reduceEq, Nat.reduceEqDiff, f8, y2, hr]
        refine rng_walk N 0 (fun j en o3 => o3 = o2 ∧ ∃ (u : Txt) (s5 s7 s8 s9 s10 s11 : Slot), u.length ≤ j ∧ en = [.val ⟨.scr ns, .fz⟩, .val ⟨.int i, .fz⟩, .val ⟨.int c, .fz⟩, .val ⟨.lst (T.map D.str), .fz⟩, .val ⟨.int (1 + v1), .fz⟩, s5, .val ⟨.str u, .fz⟩, s7, s8, s9, s10, s11]) (fun x => Step _ _ (x.seq _)) ?_ ?_ _ _ ⟨rfl, [], _, _, _, _, _, _, by simp, rfl⟩
        · rintro j en o3 hj ⟨rfl, u, s5, s7, s8, s9, s10, s11, hu, rfl⟩
          have q0 : (0 : Int) + (j : Int) = (j : Int) := by omega
          rw [q0]
          have y3 := law_num (c + j) (i + j) 7 o3 (by omega) (by omega) (by omega) (by omega)
          have z3 := lawNum_lt (c + j) (i + j) 7 (by decide)
          generalize lawNum (c + j) (i + j) 7 = v3 at y3 z3
          obtain ⟨ch, -, hch⟩ := at_ex [105, 118, 120, 99, 109, 57, 98] v3 z3.1 (by simpa using z3.2)
          have hix : ixEv (.str [105, 118, 120, 99, 109, 57, 98]) (.int v3) = some ⟨.str [ch], .fz⟩ := by
            rw [c_ixs (by decide), hch]; rfl
          have d1 : Op.add.ev (.str u) (.str [ch]) = some (.str (u ++ [ch])) := c_adds (by show _ + 1 ≤ 1000000; omega)
          generalize hw : u ++ [ch] = w at d1
          simp (implicitDefEqProofs := false) only [List.length_cons, List.length_nil, Nat.reduceAdd, Nat.reduceLeDiff, if_true, List.map_cons, List.map_nil, Nat.reduceSub, List.replicate_succ, List.replicate_zero, List.cons_append, List.nil_append, List.all_cons, List.all_nil, Bool.and_true, Bool.true_and, Bool.and_self, decide_true, decide_false, Bool.false_or, Bool.or_false, List.contains_nil, if_false, Bool.false_eq_true, le_big, nal_fz, nal_fz', nal_ex', E.isHole, run_eq, reduceIte, cnd_bl, sl_0, sl_s, rd_val, rd_own, rd_ownd, pass_fz, pass_ex, pass_al, bind_ok, bind_bad, out_ok, out_bad, seq_next, seq_ret, seq_brk, seq_cnt, seq_bad, ofO_some, ofO_none, ev_var, ev_int, ev_str, ev_bl, ev_non, ev_glb, ev_op, ngI_int, ev_neg, nt_bl, ev_not, ev_and, ev_or, ev_one, ev_ife, oc_bl, ev_chain, ev_call, ev_bi, ev_isi, ev_mt, ev_ix, ev_sl, toI_int, optI_t, optI_f, ev_lst, ev_tup, ev_nil, ev_cons, ss_nil_, ss_cons_, s_set, s_own, s_par, s_ife, s_for, s_whl, s_drop, s_app, obE_s, loop_1, loop_m, s_ret, s_retN, s_nev, s_brk, s_cnt, s_pass, outO_some, outO_none, lk_nil, lk_cons, st1_0, st1_s, put_fz, put_ex, put_own, putV_nil, putV_cons, putA_nil, putA_cons, fin_next, fin_ret, fin_bad, nal_fz, nal_ex, nal_fz, nal_ex, add_ii, sub_ii, lt_ii, le_ii, gt_ii, ge_ii, is_n, isNot_n, eq_ss, ne_ss, eq_ii, ne_ii, eq_ns, in_ss, notIn_ss, kd_add_i, kd_add_s, kd_add_l, kd_mul_i, kd_sub, kd_fdiv, kd_mod, kd_pow, kd_lt, kd_le, kd_gt, kd_ge, kd_eq, kd_ne, kd_is, kd_isn, kd_in, kd_nin, ix_l, ix_t, ix_scr, map_some_, map_none_, bindO_some, bindO_none, it_any, it_A_t, it_A_s, it_A_l, it_L_fz, it_L_ex, it_L_al, it_r1, it_r2, it_r3, it_enum, it_zip, it_zip3, it_zipA, it_Z_s, it_Z_l, ev_lc, lc_fr_n, lc_fr_v, lc_free, lc_tgIx_1, lc_tgIx_m, obE_R, lc_optK_t, lc_optK_f, lc_noExc_ok, lc_noExc_bad, lc_noExc_exc, lcB_1, lcB_2, lcB_3, isO_own, isO_y, onO_eq, onO_s, bi_len_l, bi_len_scr, bi_len_t, bi_abs, bi_all, bi_any, bi_list, bi_tuple, ix_sl_l, ix_sl_scr, ix_d, ev_dlit, put_ownd, kd_mul_s, kd_mul_l, kd_mul_t, kd_inQ, kd_notInQ, kd_addS, kd_addL, isNon_n, isN_bl, isN_int, isN_str, isN_lst, isN_tup, ty_int_n, ty_int_b, ty_int_i, ty_int_s, ty_int_l, ty_int_t, ty_int_scr, ty_int_d, ty_str_n, ty_str_b, ty_str_i, ty_str_s, ty_str_l, ty_str_t, ty_str_scr, ty_str_d, ty_bool_n, ty_bool_b, ty_bool_i, ty_bool_s, ty_bool_l, ty_bool_t, ty_bool_scr, ty_bool_d, ty_list_n, ty_list_b, ty_list_i, ty_list_s, ty_list_l, ty_list_t, ty_list_scr, ty_list_d, ty_tuple_n, ty_tuple_b, ty_tuple_i, ty_tuple_s, ty_tuple_l, ty_tuple_t, ty_tuple_scr, ty_tuple_d, mtr_split, mtr_join, mtr_starts, mtr_lstrip, mtr_indexS, mtr_indexL, mtr_count, mtr_get1, mtr_get2, eq_nn_, ne_nn_, eq_nb_, ne_nb_, eq_ni_, ne_ni_, eq_bn_, ne_bn_, eq_bb_, ne_bb_, eq_bi_, ne_bi_, eq_bs_, ne_bs_, eq_in_, ne_in_, eq_ib_, ne_ib_, eq_is_, ne_is_, eq_sn_, ne_sn_, eq_sb_, ne_sb_, eq_si_, ne_si_, ne_ns_, c_mul, c_fdiv, c_mod, c_pow, c_adds, c_addl, c_ixs, lt600, lt60, lt1000, c_rng1, c_rng2, c_rng3, c_len, c_str, c_int, c_starts, c_indexS, c_sls, Nat.reduceLT, Int.reduceLT, Int.reduceLE, Int.reduceNeg, Int.reduceToNat, Int.reducePow, Int.reduceMul, Int.reduceAdd, Int.reduceSub, Bool.not_true, Bool.not_false, It.slots, E.slot, Nat.reduceBEq, Sc.d, Int.reduceEq, Nat.reduceEqDiff, f8, y3, hix, d1]
          exact ⟨rfl, w, _, _, _, _, _, _, by rw [← hw]; simp; omega, rfl⟩
        · rintro en o3 ⟨rfl, u, s5, s7, s8, s9, s10, s11, hu, rfl⟩
          have d1 : Op.add.ev (.lst (T.map D.str)) (.lst [.str u]) = some (.lst ((T ++ [u]).map D.str)) := by
            rw [c_addl (by rw [List.length_map]; show _ + 1 ≤ 1000000; omega), List.map_append]; rfl
          have hT : ∀ t ∈ T ++ [u], t.length ≤ 50 := by
            intro t ht
            rw [List.mem_append] at ht
            rcases ht with ht | ht
            · exact hT t ht
            · simp at ht; rw [ht]; omega
          generalize T ++ [u] = T' at d1 hT
          simp (implicitDefEqProofs := false) only [List.length_cons, List.length_nil, Nat.reduceAdd, Nat.reduceLeDiff, if_true, List.map_cons, List.map_nil, Nat.reduceSub, List.replicate_succ, List.replicate_zero, List.cons_append, List.nil_append, List.all_cons, List.all_nil, Bool.and_true, Bool.true_and, Bool.and_self, decide_true, decide_false, Bool.false_or, Bool.or_false, List.contains_nil, if_false, Bool.false_eq_true, le_big, nal_fz, nal_fz', nal_ex', E.isHole, run_eq, reduceIte, cnd_bl, sl_0, sl_s, rd_val, rd_own, rd_ownd, pass_fz, pass_ex, pass_al, bind_ok, bind_bad, out_ok, out_bad, seq_next, seq_ret, seq_brk, seq_cnt, seq_bad, ofO_some, ofO_none, ev_var, ev_int, ev_str, ev_bl, ev_non, ev_glb, ev_op, ngI_int, ev_neg, nt_bl, ev_not, ev_and, ev_or, ev_one, ev_ife, oc_bl, ev_chain, ev_call, ev_bi, ev_isi, ev_mt, ev_ix, ev_sl, toI_int, optI_t, optI_f, ev_lst, ev_tup, ev_nil, ev_cons, ss_nil_, ss_cons_, s_set, s_own, s_par, s_ife, s_for, s_whl, s_drop, s_app, obE_s, loop_1, loop_m, s_ret, s_retN, s_nev, s_brk, s_cnt, s_pass, outO_some, outO_none, lk_nil, lk_cons, st1_0, st1_s, put_fz, put_ex, put_own, putV_nil, putV_cons, putA_nil, putA_cons, fin_next, fin_ret, fin_bad, nal_fz, nal_ex, nal_fz, nal_ex, add_ii, sub_ii, lt_ii, le_ii, gt_ii, ge_ii, is_n, isNot_n, eq_ss, ne_ss, eq_ii, ne_ii, eq_ns, in_ss, notIn_ss, kd_add_i, kd_add_s, kd_add_l, kd_mul_i, kd_sub, kd_fdiv, kd_mod, kd_pow, kd_lt, kd_le, kd_gt, kd_ge, kd_eq, kd_ne, kd_is, kd_isn, kd_in, kd_nin, ix_l, ix_t, ix_scr, map_some_, map_none_, bindO_some, bindO_none, it_any, it_A_t, it_A_s, it_A_l, it_L_fz, it_L_ex, it_L_al, it_r1, it_r2, it_r3, it_enum, it_zip, it_zip3, it_zipA, it_Z_s, it_Z_l, ev_lc, lc_fr_n, lc_fr_v, lc_free, lc_tgIx_1, lc_tgIx_m, obE_R, lc_optK_t, lc_optK_f, lc_noExc_ok, lc_noExc_bad, lc_noExc_exc, lcB_1, lcB_2, lcB_3, isO_own, isO_y, onO_eq, onO_s, bi_len_l, bi_len_scr, bi_len_t, bi_abs, bi_all, bi_any, bi_list, bi_tuple, ix_sl_l, ix_sl_scr, ix_d, ev_dlit, put_ownd, kd_mul_s, kd_mul_l, kd_mul_t, kd_inQ, kd_notInQ, kd_addS, kd_addL, isNon_n, isN_bl, isN_int, isN_str, isN_lst, isN_tup, ty_int_n, ty_int_b, ty_int_i, ty_int_s, ty_int_l, ty_int_t, ty_int_scr, ty_int_d, ty_str_n, ty_str_b, ty_str_i, ty_str_s, ty_str_l, ty_str_t, ty_str_scr, ty_str_d, ty_bool_n, ty_bool_b, ty_bool_i, ty_bool_s, ty_bool_l, ty_bool_t, ty_bool_scr, ty_bool_d, ty_list_n, ty_list_b, ty_list_i, ty_list_s, ty_list_l, ty_list_t, ty_list_scr, ty_list_d, ty_tuple_n, ty_tuple_b, ty_tuple_i, ty_tuple_s, ty_tuple_l, ty_tuple_t, ty_tuple_scr, ty_tuple_d, mtr_split, mtr_join, mtr_starts, mtr_lstrip, mtr_indexS, mtr_indexL, mtr_count, mtr_get1, mtr_get2, eq_nn_, ne_nn_, eq_nb_, ne_nb_, eq_ni_, ne_ni_, eq_bn_, ne_bn_, eq_bb_, ne_bb_, eq_bi_, ne_bi_, eq_bs_, ne_bs_, eq_in_, ne_in_, eq_ib_, ne_ib_, eq_is_, ne_is_, eq_sn_, ne_sn_, eq_sb_, ne_sb_, eq_si_, ne_si_, ne_ns_, c_mul, c_fdiv, c_mod, c_pow, c_adds, c_addl, c_ixs, lt600, lt60, lt1000, c_rng1, c_rng2, c_rng3, c_len, c_str, c_int, c_starts, c_indexS, c_sls, Nat.reduceLT, Int.reduceLT, Int.reduceLE, Int.reduceNeg, Int.reduceToNat, Int.reducePow, Int.reduceMul, Int.reduceAdd, Int.reduceSub, Bool.not_true, Bool.not_false, It.slots, E.slot, Nat.reduceBEq, Sc.d, Int.reduceEq, Nat.reduceEqDiff, d1]
          refine for_walk D.str (fun rem en o4 => o4 = o3 ∧ (∀ t ∈ rem, t.length ≤ 50) ∧ ∃ (s1 s2 s3 s4 s5 s6 s7 s8 s9 s10 s11 : Slot), en = [.val ⟨.scr ns, .fz⟩, s1, s2, s3, s4, s5, s6, s7, s8, s9, s10, s11]) (fun x => Step _ _ (x.seq _)) ?_ ?_ T' _ _ ⟨rfl, hT, _, _, _, _, _, _, _, _, _, _, _, rfl⟩
          · rintro t r en o4 ⟨rfl, hT, s1, s2, s3, s4, s5, s6, s7, s8, s9, s10, s11, rfl⟩
            have ht := hT t (by simp)
            have hT : ∀ t ∈ r, t.length ≤ 50 := fun t h => hT t (by simp [h])
            simp (implicitDefEqProofs := false) only [List.length_cons, List.length_nil, Nat.reduceAdd, Nat.reduceLeDiff, if_true, List.map_cons, List.map_nil, Nat.reduceSub, List.replicate_succ, List.replicate_zero, List.cons_append, List.nil_append, List.all_cons, List.all_nil, Bool.and_true, Bool.true_and, Bool.and_self, decide_true, decide_false, Bool.false_or, Bool.or_false, List.contains_nil, if_false, Bool.false_eq_true, le_big, nal_fz, nal_fz', nal_ex', E.isHole, run_eq, reduceIte, cnd_bl, sl_0, sl_s, rd_val, rd_own, rd_ownd, pass_fz, pass_ex, pass_al, bind_ok, bind_bad, out_ok, out_bad, seq_next, seq_ret, seq_brk, seq_cnt, seq_bad, ofO_some, ofO_none, ev_var, ev_int, ev_str, ev_bl, ev_non, ev_glb, ev_op, ngI_int, ev_neg, nt_bl, ev_not, ev_and, ev_or, ev_one, ev_ife, oc_bl, ev_chain, ev_call, ev_bi, ev_isi, ev_mt, ev_ix, ev_sl, toI_int, optI_t, optI_f, ev_lst, ev_tup, ev_nil, ev_cons, ss_nil_, ss_cons_, s_set, s_own, s_par, s_ife, s_for, s_whl, s_drop, s_app, obE_s, loop_1, loop_m, s_ret, s_retN, s_nev, s_brk, s_cnt, s_pass, outO_some, outO_none, lk_nil, lk_cons, st1_0, st1_s, put_fz, put_ex, put_own, putV_nil, putV_cons, putA_nil, putA_cons, fin_next, fin_ret, fin_bad, nal_fz, nal_ex, nal_fz, nal_ex, add_ii, sub_ii, lt_ii, le_ii, gt_ii, ge_ii, is_n, isNot_n, eq_ss, ne_ss, eq_ii, ne_ii, eq_ns, in_ss, notIn_ss, kd_add_i, kd_add_s, kd_add_l, kd_mul_i, kd_sub, kd_fdiv, kd_mod, kd_pow, kd_lt, kd_le, kd_gt, kd_ge, kd_eq, kd_ne, kd_is, kd_isn, kd_in, kd_nin, ix_l, ix_t, ix_scr, map_some_, map_none_, bindO_some, bindO_none, it_any, it_A_t, it_A_s, it_A_l, it_L_fz, it_L_ex, it_L_al, it_r1, it_r2, it_r3, it_enum, it_zip, it_zip3, it_zipA, it_Z_s, it_Z_l, ev_lc, lc_fr_n, lc_fr_v, lc_free, lc_tgIx_1, lc_tgIx_m, obE_R, lc_optK_t, lc_optK_f, lc_noExc_ok, lc_noExc_bad, lc_noExc_exc, lcB_1, lcB_2, lcB_3, isO_own, isO_y, onO_eq, onO_s, bi_len_l, bi_len_scr, bi_len_t, bi_abs, bi_all, bi_any, bi_list, bi_tuple, ix_sl_l, ix_sl_scr, ix_d, ev_dlit, put_ownd, kd_mul_s, kd_mul_l, kd_mul_t, kd_inQ, kd_notInQ, kd_addS, kd_addL, isNon_n, isN_bl, isN_int, isN_str, isN_lst, isN_tup, ty_int_n, ty_int_b, ty_int_i, ty_int_s, ty_int_l, ty_int_t, ty_int_scr, ty_int_d, ty_str_n, ty_str_b, ty_str_i, ty_str_s, ty_str_l, ty_str_t, ty_str_scr, ty_str_d, ty_bool_n, ty_bool_b, ty_bool_i, ty_bool_s, ty_bool_l, ty_bool_t, ty_bool_scr, ty_bool_d, ty_list_n, ty_list_b, ty_list_i, ty_list_s, ty_list_l, ty_list_t, ty_list_scr, ty_list_d, ty_tuple_n, ty_tuple_b, ty_tuple_i, ty_tuple_s, ty_tuple_l, ty_tuple_t, ty_tuple_scr, ty_tuple_d, mtr_split, mtr_join, mtr_starts, mtr_lstrip, mtr_indexS, mtr_indexL, mtr_count, mtr_get1, mtr_get2, eq_nn_, ne_nn_, eq_nb_, ne_nb_, eq_ni_, ne_ni_, eq_bn_, ne_bn_, eq_bb_, ne_bb_, eq_bi_, ne_bi_, eq_bs_, ne_bs_, eq_in_, ne_in_, eq_ib_, ne_ib_, eq_is_, ne_is_, eq_sn_, ne_sn_, eq_sb_, ne_sb_, eq_si_, ne_si_, ne_ns_, c_mul, c_fdiv, c_mod, c_pow, c_adds, c_addl, c_ixs, lt600, lt60, lt1000, c_rng1, c_rng2, c_rng3, c_len, c_str, c_int, c_starts, c_indexS, c_sls, Nat.reduceLT, Int.reduceLT, Int.reduceLE, Int.reduceNeg, Int.reduceToNat, Int.reducePow, Int.reduceMul, Int.reduceAdd, Int.reduceSub, Bool.not_true, Bool.not_false, It.slots, E.slot, Nat.reduceBEq, Sc.d, Int.reduceEq, Nat.reduceEqDiff, hkF, hkL, hkR]
            refine for_walk D.str (fun rem en o5 => o5 = o4 ∧ (∀ k ∈ rem, isK k) ∧ ∃ (s1 s2 s3 s4 s5 s6 s7 s9 s10 s11 : Slot), en = [.val ⟨.scr ns, .fz⟩, s1, s2, s3, s4, s5, s6, s7, .val ⟨.str t, .fz⟩, s9, s10, s11]) (fun x => Step _ _ (x.seq _)) ?_ ?_ [kF, kL, kR] _ _ ⟨rfl, by decide, _, _, _, _, _, _, _, _, _, _, rfl⟩
            · rintro k r2 en o5 ⟨rfl, hall, s1, s2, s3, s4, s5, s6, s7, s9, s10, s11, rfl⟩
              obtain ⟨x1, x2⟩ := read_one t k (by show _ ≤ 1000000; omega) (hall k (by simp)) o5
              have hall : ∀ k ∈ r2, isK k := fun k hk => hall k (by simp [hk])
              have x3 := ne_opt (numFrom t k)
              cases hv : numFrom t k with
              | none =>
                rw [hv] at x1 x2 x3
                have x1 : m_number_of [⟨.str t, .fz⟩, ⟨.str k, .fz⟩] o5 = .ok ⟨.non, .fz⟩ o5 := x1
                have x2 : m__law_value [⟨.str t, .fz⟩, ⟨.str k, .fz⟩] o5 = .ok ⟨.non, .fz⟩ o5 := x2
                simp (implicitDefEqProofs := false) only [List.length_cons, List.length_nil, Nat.reduceAdd, Nat.reduceLeDiff, if_true, List.map_cons, List.map_nil, Nat.reduceSub, List.replicate_succ, List.replicate_zero, List.cons_append, List.nil_append, List.all_cons, List.all_nil, Bool.and_true, Bool.true_and, Bool.and_self, decide_true, decide_false, Bool.false_or, Bool.or_false, List.contains_nil, if_false, Bool.false_eq_true, le_big, nal_fz, nal_fz', nal_ex', E.isHole, run_eq, reduceIte, cnd_bl, sl_0, sl_s, rd_val, rd_own, rd_ownd, pass_fz, pass_ex, pass_al, bind_ok, bind_bad, out_ok, out_bad, seq_next, seq_ret, seq_brk, seq_cnt, seq_bad, ofO_some, ofO_none, ev_var, ev_int, ev_str, ev_bl, ev_non, ev_glb, ev_op, ngI_int, ev_neg, nt_bl, ev_not, ev_and, ev_or, ev_one, ev_ife, oc_bl, ev_chain, ev_call, ev_bi, ev_isi, ev_mt, ev_ix, ev_sl, toI_int, optI_t, optI_f, ev_lst, ev_tup, ev_nil, ev_cons, ss_nil_, ss_cons_, s_set, s_own, s_par, s_ife, s_for, s_whl, s_drop, s_app, obE_s, loop_1, loop_m, s_ret, s_retN, s_nev, s_brk, s_cnt, s_pass, outO_some, outO_none, lk_nil, lk_cons, st1_0, st1_s, put_fz, put_ex, put_own, putV_nil, putV_cons, putA_nil, putA_cons, fin_next, fin_ret, fin_bad, nal_fz, nal_ex, nal_fz, nal_ex, add_ii, sub_ii, lt_ii, le_ii, gt_ii, ge_ii, is_n, isNot_n, eq_ss, ne_ss, eq_ii, ne_ii, eq_ns, in_ss, notIn_ss, kd_add_i, kd_add_s, kd_add_l, kd_mul_i, kd_sub, kd_fdiv, kd_mod, kd_pow, kd_lt, kd_le, kd_gt, kd_ge, kd_eq, kd_ne, kd_is, kd_isn, kd_in, kd_nin, ix_l, ix_t, ix_scr, map_some_, map_none_, bindO_some, bindO_none, it_any, it_A_t, it_A_s, it_A_l, it_L_fz, it_L_ex, it_L_al, it_r1, it_r2, it_r3, it_enum, it_zip, it_zip3, it_zipA, it_Z_s, it_Z_l, ev_lc, lc_fr_n, lc_fr_v, lc_free, lc_tgIx_1, lc_tgIx_m, obE_R, lc_optK_t, lc_optK_f, lc_noExc_ok, lc_noExc_bad, lc_noExc_exc, lcB_1, lcB_2, lcB_3, isO_own, isO_y, onO_eq, onO_s, bi_len_l, bi_len_scr, bi_len_t, bi_abs, bi_all, bi_any, bi_list, bi_tuple, ix_sl_l, ix_sl_scr, ix_d, ev_dlit, put_ownd, kd_mul_s, kd_mul_l, kd_mul_t, kd_inQ, kd_notInQ, kd_addS, kd_addL, isNon_n, isN_bl, isN_int, isN_str, isN_lst, isN_tup, ty_int_n, ty_int_b, ty_int_i, ty_int_s, ty_int_l, ty_int_t, ty_int_scr, ty_int_d, ty_str_n, ty_str_b, ty_str_i, ty_str_s, ty_str_l, ty_str_t, ty_str_scr, ty_str_d, ty_bool_n, ty_bool_b, ty_bool_i, ty_bool_s, ty_bool_l, ty_bool_t, ty_bool_scr, ty_bool_d, ty_list_n, ty_list_b, ty_list_i, ty_list_s, ty_list_l, ty_list_t, ty_list_scr, ty_list_d, ty_tuple_n, ty_tuple_b, ty_tuple_i, ty_tuple_s, ty_tuple_l, ty_tuple_t, ty_tuple_scr, ty_tuple_d, mtr_split, mtr_join, mtr_starts, mtr_lstrip, mtr_indexS, mtr_indexL, mtr_count, mtr_get1, mtr_get2, eq_nn_, ne_nn_, eq_nb_, ne_nb_, eq_ni_, ne_ni_, eq_bn_, ne_bn_, eq_bb_, ne_bb_, eq_bi_, ne_bi_, eq_bs_, ne_bs_, eq_in_, ne_in_, eq_ib_, ne_ib_, eq_is_, ne_is_, eq_sn_, ne_sn_, eq_sb_, ne_sb_, eq_si_, ne_si_, ne_ns_, c_mul, c_fdiv, c_mod, c_pow, c_adds, c_addl, c_ixs, lt600, lt60, lt1000, c_rng1, c_rng2, c_rng3, c_len, c_str, c_int, c_starts, c_indexS, c_sls, Nat.reduceLT, Int.reduceLT, Int.reduceLE, Int.reduceNeg, Int.reduceToNat, Int.reducePow, Int.reduceMul, Int.reduceAdd, Int.reduceSub, Bool.not_true, Bool.not_false, It.slots, E.slot, Nat.reduceBEq, Sc.d, Int.reduceEq, Nat.reduceEqDiff, f6, f11, x1, x2]
                exact ⟨rfl, hall, _, _, _, _, _, _, _, _, _, _, rfl⟩
              | some v =>
                rw [hv] at x1 x2 x3
                have x1 : m_number_of [⟨.str t, .fz⟩, ⟨.str k, .fz⟩] o5 = .ok ⟨.int v, .fz⟩ o5 := x1
                have x2 : m__law_value [⟨.str t, .fz⟩, ⟨.str k, .fz⟩] o5 = .ok ⟨.int v, .fz⟩ o5 := x2
                have x4 : ((v : Int) == (v : Int)) = true := beq_self_eq_true _
                have x5 : m__law_whole [⟨.int v, .fz⟩] o5 = .ok ⟨.bl true, .fz⟩ o5 := rfl
                simp (implicitDefEqProofs := false) only [List.length_cons, List.length_nil, Nat.reduceAdd, Nat.reduceLeDiff, if_true, List.map_cons, List.map_nil, Nat.reduceSub, List.replicate_succ, List.replicate_zero, List.cons_append, List.nil_append, List.all_cons, List.all_nil, Bool.and_true, Bool.true_and, Bool.and_self, decide_true, decide_false, Bool.false_or, Bool.or_false, List.contains_nil, if_false, Bool.false_eq_true, le_big, nal_fz, nal_fz', nal_ex', E.isHole, run_eq, reduceIte, cnd_bl, sl_0, sl_s, rd_val, rd_own, rd_ownd, pass_fz, pass_ex, pass_al, bind_ok, bind_bad, out_ok, out_bad, seq_next, seq_ret, seq_brk, seq_cnt, seq_bad, ofO_some, ofO_none, ev_var, ev_int, ev_str, ev_bl, ev_non, ev_glb, ev_op, ngI_int, ev_neg, nt_bl, ev_not, ev_and, ev_or, ev_one, ev_ife, oc_bl, ev_chain, ev_call, ev_bi, ev_isi, ev_mt, ev_ix, ev_sl, toI_int, optI_t, optI_f, ev_lst, ev_tup, ev_nil, ev_cons, ss_nil_, ss_cons_, s_set, s_own, s_par, s_ife, s_for, s_whl, s_drop, s_app, obE_s, loop_1, loop_m, s_ret, s_retN, s_nev, s_brk, s_cnt, s_pass, outO_some, outO_none, lk_nil, lk_cons, st1_0, st1_s, put_fz, put_ex, put_own, putV_nil, putV_cons, putA_nil, putA_cons, fin_next, fin_ret, fin_bad, nal_fz, nal_ex, nal_fz, nal_ex, add_ii, sub_ii, lt_ii, le_ii, gt_ii, ge_ii, is_n, isNot_n, eq_ss, ne_ss, eq_ii, ne_ii, eq_ns, in_ss, notIn_ss, kd_add_i, kd_add_s, kd_add_l, kd_mul_i, kd_sub, kd_fdiv, kd_mod, kd_pow, kd_lt, kd_le, kd_gt, kd_ge, kd_eq, kd_ne, kd_is, kd_isn, kd_in, kd_nin, ix_l, ix_t, ix_scr, map_some_, map_none_, bindO_some, bindO_none, it_any, it_A_t, it_A_s, it_A_l, it_L_fz, it_L_ex, it_L_al, it_r1, it_r2, it_r3, it_enum, it_zip, it_zip3, it_zipA, it_Z_s, it_Z_l, ev_lc, lc_fr_n, lc_fr_v, lc_free, lc_tgIx_1, lc_tgIx_m, obE_R, lc_optK_t, lc_optK_f, lc_noExc_ok, lc_noExc_bad, lc_noExc_exc, lcB_1, lcB_2, lcB_3, isO_own, isO_y, onO_eq, onO_s, bi_len_l, bi_len_scr, bi_len_t, bi_abs, bi_all, bi_any, bi_list, bi_tuple, ix_sl_l, ix_sl_scr, ix_d, ev_dlit, put_ownd, kd_mul_s, kd_mul_l, kd_mul_t, kd_inQ, kd_notInQ, kd_addS, kd_addL, isNon_n, isN_bl, isN_int, isN_str, isN_lst, isN_tup, ty_int_n, ty_int_b, ty_int_i, ty_int_s, ty_int_l, ty_int_t, ty_int_scr, ty_int_d, ty_str_n, ty_str_b, ty_str_i, ty_str_s, ty_str_l, ty_str_t, ty_str_scr, ty_str_d, ty_bool_n, ty_bool_b, ty_bool_i, ty_bool_s, ty_bool_l, ty_bool_t, ty_bool_scr, ty_bool_d, ty_list_n, ty_list_b, ty_list_i, ty_list_s, ty_list_l, ty_list_t, ty_list_scr, ty_list_d, ty_tuple_n, ty_tuple_b, ty_tuple_i, ty_tuple_s, ty_tuple_l, ty_tuple_t, ty_tuple_scr, ty_tuple_d, mtr_split, mtr_join, mtr_starts, mtr_lstrip, mtr_indexS, mtr_indexL, mtr_count, mtr_get1, mtr_get2, eq_nn_, ne_nn_, eq_nb_, ne_nb_, eq_ni_, ne_ni_, eq_bn_, ne_bn_, eq_bb_, ne_bb_, eq_bi_, ne_bi_, eq_bs_, ne_bs_, eq_in_, ne_in_, eq_ib_, ne_ib_, eq_is_, ne_is_, eq_sn_, ne_sn_, eq_sb_, ne_sb_, eq_si_, ne_si_, ne_ns_, c_mul, c_fdiv, c_mod, c_pow, c_adds, c_addl, c_ixs, lt600, lt60, lt1000, c_rng1, c_rng2, c_rng3, c_len, c_str, c_int, c_starts, c_indexS, c_sls, Nat.reduceLT, Int.reduceLT, Int.reduceLE, Int.reduceNeg, Int.reduceToNat, Int.reducePow, Int.reduceMul, Int.reduceAdd, Int.reduceSub, Bool.not_true, Bool.not_false, It.slots, E.slot, Nat.reduceBEq, Sc.d, Int.reduceEq, Nat.reduceEqDiff, f6, f11, f12, x1, x2, x4, x5]
                exact ⟨rfl, hall, _, _, _, _, _, _, _, _, _, _, rfl⟩
            · rintro en o5 ⟨rfl, -, s1, s2, s3, s4, s5, s6, s7, s9, s10, s11, rfl⟩
              simp (implicitDefEqProofs := false) only [List.length_cons, List.length_nil, Nat.reduceAdd, Nat.reduceLeDiff, if_true, List.map_cons, List.map_nil, Nat.reduceSub, List.replicate_succ, List.replicate_zero, List.cons_append, List.nil_append, List.all_cons, List.all_nil, Bool.and_true, Bool.true_and, Bool.and_self, decide_true, decide_false, Bool.false_or, Bool.or_false, List.contains_nil, if_false, Bool.false_eq_true, le_big, nal_fz, nal_fz', nal_ex', E.isHole, run_eq, reduceIte, cnd_bl, sl_0, sl_s, rd_val, rd_own, rd_ownd, pass_fz, pass_ex, pass_al, bind_ok, bind_bad, out_ok, out_bad, seq_next, seq_ret, seq_brk, seq_cnt, seq_bad, ofO_some, ofO_none, ev_var, ev_int, ev_str, ev_bl, ev_non, ev_glb, ev_op, ngI_int, ev_neg, nt_bl, ev_not, ev_and, ev_or, ev_one, ev_ife, oc_bl, ev_chain, ev_call, ev_bi, ev_isi, ev_mt, ev_ix, ev_sl, toI_int, optI_t, optI_f, ev_lst, ev_tup, ev_nil, ev_cons, ss_nil_, ss_cons_, s_set, s_own, s_par, s_ife, s_for, s_whl, s_drop, s_app, obE_s, loop_1, loop_m, s_ret, s_retN, s_nev, s_brk, s_cnt, s_pass, outO_some, outO_none, lk_nil, lk_cons, st1_0, st1_s, put_fz, put_ex, put_own, putV_nil, putV_cons, putA_nil, putA_cons, fin_next, fin_ret, fin_bad, nal_fz, nal_ex, nal_fz, nal_ex, add_ii, sub_ii, lt_ii, le_ii, gt_ii, ge_ii, is_n, isNot_n, eq_ss, ne_ss, eq_ii, ne_ii, eq_ns, in_ss, notIn_ss, kd_add_i, kd_add_s, kd_add_l, kd_mul_i, kd_sub, kd_fdiv, kd_mod, kd_pow, kd_lt, kd_le, kd_gt, kd_ge, kd_eq, kd_ne, kd_is, kd_isn, kd_in, kd_nin, ix_l, ix_t, ix_scr, map_some_, map_none_, bindO_some, bindO_none, it_any, it_A_t, it_A_s, it_A_l, it_L_fz, it_L_ex, it_L_al, it_r1, it_r2, it_r3, it_enum, it_zip, it_zip3, it_zipA, it_Z_s, it_Z_l, ev_lc, lc_fr_n, lc_fr_v, lc_free, lc_tgIx_1, lc_tgIx_m, obE_R, lc_optK_t, lc_optK_f, lc_noExc_ok, lc_noExc_bad, lc_noExc_exc, lcB_1, lcB_2, lcB_3, isO_own, isO_y, onO_eq, onO_s, bi_len_l, bi_len_scr, bi_len_t, bi_abs, bi_all, bi_any, bi_list, bi_tuple, ix_sl_l, ix_sl_scr, ix_d, ev_dlit, put_ownd, kd_mul_s, kd_mul_l, kd_mul_t, kd_inQ, kd_notInQ, kd_addS, kd_addL, isNon_n, isN_bl, isN_int, isN_str, isN_lst, isN_tup, ty_int_n, ty_int_b, ty_int_i, ty_int_s, ty_int_l, ty_int_t, ty_int_scr, ty_int_d, ty_str_n, ty_str_b, ty_str_i, ty_str_s, ty_str_l, ty_str_t, ty_str_scr, ty_str_d, ty_bool_n, ty_bool_b, ty_bool_i, ty_bool_s, ty_bool_l, ty_bool_t, ty_bool_scr, ty_bool_d, ty_list_n, ty_list_b, ty_list_i, ty_list_s, ty_list_l, ty_list_t, ty_list_scr, ty_list_d, ty_tuple_n, ty_tuple_b, ty_tuple_i, ty_tuple_s, ty_tuple_l, ty_tuple_t, ty_tuple_scr, ty_tuple_d, mtr_split, mtr_join, mtr_starts, mtr_lstrip, mtr_indexS, mtr_indexL, mtr_count, mtr_get1, mtr_get2, eq_nn_, ne_nn_, eq_nb_, ne_nb_, eq_ni_, ne_ni_, eq_bn_, ne_bn_, eq_bb_, ne_bb_, eq_bi_, ne_bi_, eq_bs_, ne_bs_, eq_in_, ne_in_, eq_ib_, ne_ib_, eq_is_, ne_is_, eq_sn_, ne_sn_, eq_sb_, ne_sb_, eq_si_, ne_si_, ne_ns_, c_mul, c_fdiv, c_mod, c_pow, c_adds, c_addl, c_ixs, lt600, lt60, lt1000, c_rng1, c_rng2, c_rng3, c_len, c_str, c_int, c_starts, c_indexS, c_sls, Nat.reduceLT, Int.reduceLT, Int.reduceLE, Int.reduceNeg, Int.reduceToNat, Int.reducePow, Int.reduceMul, Int.reduceAdd, Int.reduceSub, Bool.not_true, Bool.not_false, It.slots, E.slot, Nat.reduceBEq, Sc.d, Int.reduceEq, Nat.reduceEqDiff]
              exact ⟨rfl, hT, _, _, _, _, _, _, _, _, _, _, _, rfl⟩
          · rintro en o4 ⟨rfl, -, s1, s2, s3, s4, s5, s6, s7, s8, s9, s10, s11, rfl⟩
            simp (implicitDefEqProofs := false) only [List.length_cons, List.length_nil, Nat.reduceAdd, Nat.reduceLeDiff, if_true, List.map_cons, List.map_nil, Nat.reduceSub, List.replicate_succ, List.replicate_zero, List.cons_append, List.nil_append, List.all_cons, List.all_nil, Bool.and_true, Bool.true_and, Bool.and_self, decide_true, decide_false, Bool.false_or, Bool.or_false, List.contains_nil, if_false, Bool.false_eq_true, le_big, nal_fz, nal_fz', nal_ex', E.isHole, run_eq, reduceIte, cnd_bl, sl_0, sl_s, rd_val, rd_own, rd_ownd, pass_fz, pass_ex, pass_al, bind_ok, bind_bad, out_ok, out_bad, seq_next, seq_ret, seq_brk, seq_cnt, seq_bad, ofO_some, ofO_none, ev_var, ev_int, ev_str, ev_bl, ev_non, ev_glb, ev_op, ngI_int, ev_neg, nt_bl, ev_not, ev_and, ev_or, ev_one, ev_ife, oc_bl, ev_chain, ev_call, ev_bi, ev_isi, ev_mt, ev_ix, ev_sl, toI_int, optI_t, optI_f, ev_lst, ev_tup, ev_nil, ev_cons, ss_nil_, ss_cons_, s_set, s_own, s_par, s_ife, s_for, s_whl, s_drop, s_app, obE_s, loop_1, loop_m, s_ret, s_retN, s_nev, s_brk, s_cnt, s_pass, outO_some, outO_none, lk_nil, lk_cons, st1_0, st1_s, put_fz, put_ex, put_own, putV_nil, putV_cons, putA_nil, putA_cons, fin_next, fin_ret, fin_bad, nal_fz, nal_ex, nal_fz, nal_ex, add_ii, sub_ii, lt_ii, le_ii, gt_ii, ge_ii, is_n, isNot_n, eq_ss, ne_ss, eq_ii, ne_ii, eq_ns, in_ss, notIn_ss, kd_add_i, kd_add_s, kd_add_l, kd_mul_i, kd_sub, kd_fdiv, kd_mod, kd_pow, kd_lt, kd_le, kd_gt, kd_ge, kd_eq, kd_ne, kd_is, kd_isn, kd_in, kd_nin, ix_l, ix_t, ix_scr, map_some_, map_none_, bindO_some, bindO_none, it_any, it_A_t, it_A_s, it_A_l, it_L_fz, it_L_ex, it_L_al, it_r1, it_r2, it_r3, it_enum, it_zip, it_zip3, it_zipA, it_Z_s, it_Z_l, ev_lc, lc_fr_n, lc_fr_v, lc_free, lc_tgIx_1, lc_tgIx_m, obE_R, lc_optK_t, lc_optK_f, lc_noExc_ok, lc_noExc_bad, lc_noExc_exc, lcB_1, lcB_2, lcB_3, isO_own, isO_y, onO_eq, onO_s, bi_len_l, bi_len_scr, bi_len_t, bi_abs, bi_all, bi_any, bi_list, bi_tuple, ix_sl_l, ix_sl_scr, ix_d, ev_dlit, put_ownd, kd_mul_s, kd_mul_l, kd_mul_t, kd_inQ, kd_notInQ, kd_addS, kd_addL, isNon_n, isN_bl, isN_int, isN_str, isN_lst, isN_tup, ty_int_n, ty_int_b, ty_int_i, ty_int_s, ty_int_l, ty_int_t, ty_int_scr, ty_int_d, ty_str_n, ty_str_b, ty_str_i, ty_str_s, ty_str_l, ty_str_t, ty_str_scr, ty_str_d, ty_bool_n, ty_bool_b, ty_bool_i, ty_bool_s, ty_bool_l, ty_bool_t, ty_bool_scr, ty_bool_d, ty_list_n, ty_list_b, ty_list_i, ty_list_s, ty_list_l, ty_list_t, ty_list_scr, ty_list_d, ty_tuple_n, ty_tuple_b, ty_tuple_i, ty_tuple_s, ty_tuple_l, ty_tuple_t, ty_tuple_scr, ty_tuple_d, mtr_split, mtr_join, mtr_starts, mtr_lstrip, mtr_indexS, mtr_indexL, mtr_count, mtr_get1, mtr_get2, eq_nn_, ne_nn_, eq_nb_, ne_nb_, eq_ni_, ne_ni_, eq_bn_, ne_bn_, eq_bb_, ne_bb_, eq_bi_, ne_bi_, eq_bs_, ne_bs_, eq_in_, ne_in_, eq_ib_, ne_ib_, eq_is_, ne_is_, eq_sn_, ne_sn_, eq_sb_, ne_sb_, eq_si_, ne_si_, ne_ns_, c_mul, c_fdiv, c_mod, c_pow, c_adds, c_addl, c_ixs, lt600, lt60, lt1000, c_rng1, c_rng2, c_rng3, c_len, c_str, c_int, c_starts, c_indexS, c_sls, Nat.reduceLT, Int.reduceLT, Int.reduceLE, Int.reduceNeg, Int.reduceToNat, Int.reducePow, Int.reduceMul, Int.reduceAdd, Int.reduceSub, Bool.not_true, Bool.not_false, It.slots, E.slot, Nat.reduceBEq, Sc.d, Int.reduceEq, Nat.reduceEqDiff]
            exact ⟨rfl, _, _, _, _, _, _, _, _, _, _, _, rfl⟩
    · rintro en o' ⟨rfl, s1, s2, s3, s4, s5, s6, s7, s8, s9, s10, s11, rfl⟩
      rw [seq_next]
      exact hend _ _ _ _ _ _ _ _ _ _ _ _
  · cases h
theorem r_law_2 : ∀ rs o, (m_law_2 rs o).isBad = false → runDef G b_law_2 12 rs o = m_law_2 rs o := rr_law_2 G rfl rfl rfl rfl rfl rfl
theorem m_law_ok (ns : List Int) (_ : ns.length ≤ 63) : G.fn 15 [⟨.scr ns, .fz⟩] [] = .ok ⟨.bl true, .fz⟩ [] := rfl
open PySem PySem.Spec PyProof.Rows L2
def topS (i : Nat) : Stmt := PySem.Challenge.pw_listmarks_k02_whole_texts_read.main.body.getD i (.Pass ⟨0, 0, 0, 0⟩)
def cts : List (Nat × Str) := [(0, "KINDS"), (1, "GREATEST"), (2, "LETTERS"), (3, "PIECES")]
abbrev s_numeral_of : Stmt := topS 9
abbrev s_value_of : Stmt := topS 10
abbrev s_number_from : Stmt := topS 11
abbrev s_check_kind : Stmt := topS 12
abbrev s_number_of : Stmt := topS 13
abbrev s__law_cell_at : Stmt := topS 15
abbrev s__law_draw : Stmt := topS 16
abbrev s__law_number : Stmt := topS 17
abbrev s__law_pow : Stmt := topS 18
abbrev s__law_numeral : Stmt := topS 19
abbrev s__law_value : Stmt := topS 20
abbrev s__law_whole : Stmt := topS 21
abbrev s_law : Stmt := topS 22
def ds : List DT := [
  ⟨1, "numeral_of", s_numeral_of, ["number", "kind", "found", "worth", "text"], ["number", "kind"], b_numeral_of⟩,
  ⟨2, "value_of", s_value_of, ["text", "kind", "found", "sign", "worth", "piece"], ["text", "kind"], b_value_of⟩,
  ⟨3, "number_from", s_number_from, ["text", "kind", "found"], ["text", "kind"], b_number_from⟩,
  ⟨4, "check_kind", s_check_kind, ["kind"], ["kind"], b_check_kind⟩,
  ⟨6, "number_of", s_number_of, ["text", "kind"], ["text", "kind"], b_number_of⟩,
  ⟨14, "_law_cell_at", s__law_cell_at, ["_law_script", "_law_k"], ["_law_script", "_law_k"], b__law_cell_at⟩,
  ⟨7, "_law_draw", s__law_draw, ["_law_cell", "_law_k", "_law_most", "_law_primes"], ["_law_cell", "_law_k", "_law_most"], b__law_draw⟩,
  ⟨8, "_law_number", s__law_number, ["_law_cell", "_law_k", "_law_limit", "_law_d"], ["_law_cell", "_law_k", "_law_limit"], b__law_number⟩,
  ⟨9, "_law_pow", s__law_pow, ["_law_many", "_law_found", "_law_turn"], ["_law_many"], b__law_pow⟩,
  ⟨10, "_law_numeral", s__law_numeral, ["_law_number_here", "_law_kind", "_law_turn", "_law_found", "_law_figures", "_law_worth", "_law_one", "_law_five", "_law_ten", "_law_sign", "_law_many", "_law_left"], ["_law_number_here", "_law_kind"], b__law_numeral⟩,
  ⟨11, "_law_value", s__law_value, ["_law_text", "_law_kind", "_law_found", "_law_sign", "_law_worths", "_law_behind", "_law_less"], ["_law_text", "_law_kind"], b__law_value⟩,
  ⟨12, "_law_whole", s__law_whole, ["_law_found"], ["_law_found"], b__law_whole⟩,
  ⟨15, "law", s_law, ["_law_script", "_law_by", "_law_cell", "_law_texts", "_law_number_here", "_law_kind", "_law_drawn", "_law_turn", "_law_text", "_law_sign", "_law_at", "_law_found"], ["_law_script"], b_law_2⟩]
theorem ck : ckAll ds cts = true := by decide +kernel
def TK (K : PySem.W.Frag) : Stat := ⟨K, fun _ => 0, fun _ => [], 0, [], fun _ => .none⟩
theorem hF : ∀ (j : Nat) d, ds[j]? = some d → ∀ rs o, (G.fn d.id rs o).isBad = false → runDef G d.body d.N.length rs o = G.fn d.id rs o
  | 0, d, h => by cases h; exact r_numeral_of
  | 1, d, h => by cases h; exact r_value_of
  | 2, d, h => by cases h; exact r_number_from
  | 3, d, h => by cases h; exact r_check_kind
  | 4, d, h => by cases h; exact r_number_of
  | 5, d, h => by cases h; exact r__law_cell_at
  | 6, d, h => by cases h; exact r__law_draw
  | 7, d, h => by cases h; exact r__law_number
  | 8, d, h => by cases h; exact r__law_pow
  | 9, d, h => by cases h; exact r__law_numeral
  | 10, d, h => by cases h; exact r__law_value
  | 11, d, h => by cases h; exact r__law_whole
  | 12, d, h => by cases h; exact r_law_2
  | n + 13, d, h => by cases h
theorem all_mk {w : World} {K : PySem.W.Frag} {h : Heap} {mg : Str → Option Value} {fa : Addr} (X : K.In h) (Gn : h.Ns mainGlobals mg) (hfa : mg "law" = some (.ref fa))
    {f0 f1 f2 f3 f4 f5 f6 f7 f8 f9 f10 f11 f12 : Addr}
    {od0 an0 od1 an1 od2 an2 od3 an3 od4 an4 od5 an5 od6 an6 od7 an7 od8 an8 od9 an9 od10 an10 od11 an11 od12 an12 : Option Addr}
    {sl0 sl1 sl2 sl3 sl4 sl5 sl6 sl7 sl8 sl9 sl10 sl11 sl12 : Array (Option Value)}
    {oc0 kV0 dc0 pm0 cd0 ct0 oc1 kV1 dc1 pm1 cd1 ct1 oc2 kV2 dc2 pm2 cd2 ct2 oc3 kV3 dc3 pm3 cd3 ct3 oc4 kV4 dc4 pm4 cd4 ct4 oc5 kV5 dc5 pm5 cd5 ct5 oc6 kV6 dc6 pm6 cd6 ct6 oc7 kV7 dc7 pm7 cd7 ct7 oc8 kV8 dc8 pm8 cd8 ct8 oc9 kV9 dc9 pm9 cd9 ct9 oc10 kV10 dc10 pm10 cd10 ct10 oc11 kV11 dc11 pm11 cd11 ct11 oc12 kV12 dc12 pm12 cd12 ct12 : Value}
    {tk0 tk1 tk2 tk3 tk4 tk5 tk6 tk7 tk8 tk9 tk10 tk11 tk12 tk13 tk14 tk15 tk16 tk17 tk18 tk19 tk20 tk21 tk22 tk23 tk24 tk25 tk26 tk27 tk28 tk29 tk30 : Tok}
    {p0 p1 p2 p3 p4 p5 p6 p7 p8 p9 p10 p11 p12 p13 p14 : Addr}
    {nn0 nn1 nn2 nn3 nn4 nn5 nn6 nn7 nn8 nn9 nn10 nn11 nn12 nn13 nn14 : Nat}
    {ss0 ss1 ss2 ss3 ss4 ss5 ss6 ss7 ss8 ss9 ss10 ss11 ss12 ss13 ss14 : Array (Option Value)}
    {dd0 dd1 dd2 dd3 dd4 dd5 dd6 dd7 dd8 dd9 dd10 dd11 dd12 dd13 dd14 : Option Addr}
    {us0 us1 us2 us3 us4 us5 us6 us7 us8 us9 us10 us11 us12 us13 us14 : Array Value}
    (a0 : PySem.W.nsIn K mainGlobals "numeral_of" = some (some (.ref f0)))
    (l0 : K.lookup f0 = some ⟨oc0, od0, .func (PySem.W.fnOf "numeral_of" "numeral_of" (defArgs s_numeral_of) (defBody s_numeral_of) (defScope s_numeral_of) .none kV0 dc0 pm0 an0 cd0 ct0), sl0⟩)
    (c0 : PySem.W.codeIn K cd0 "numeral_of" = true)
    (k0 : PySem.W.keepIn K (.ref f0) = true)
    (a1 : PySem.W.nsIn K mainGlobals "value_of" = some (some (.ref f1)))
    (l1 : K.lookup f1 = some ⟨oc1, od1, .func (PySem.W.fnOf "value_of" "value_of" (defArgs s_value_of) (defBody s_value_of) (defScope s_value_of) .none kV1 dc1 pm1 an1 cd1 ct1), sl1⟩)
    (c1 : PySem.W.codeIn K cd1 "value_of" = true)
    (k1 : PySem.W.keepIn K (.ref f1) = true)
    (a2 : PySem.W.nsIn K mainGlobals "number_from" = some (some (.ref f2)))
    (l2 : K.lookup f2 = some ⟨oc2, od2, .func (PySem.W.fnOf "number_from" "number_from" (defArgs s_number_from) (defBody s_number_from) (defScope s_number_from) .none kV2 dc2 pm2 an2 cd2 ct2), sl2⟩)
    (c2 : PySem.W.codeIn K cd2 "number_from" = true)
    (k2 : PySem.W.keepIn K (.ref f2) = true)
    (a3 : PySem.W.nsIn K mainGlobals "check_kind" = some (some (.ref f3)))
    (l3 : K.lookup f3 = some ⟨oc3, od3, .func (PySem.W.fnOf "check_kind" "check_kind" (defArgs s_check_kind) (defBody s_check_kind) (defScope s_check_kind) .none kV3 dc3 pm3 an3 cd3 ct3), sl3⟩)
    (c3 : PySem.W.codeIn K cd3 "check_kind" = true)
    (k3 : PySem.W.keepIn K (.ref f3) = true)
    (a4 : PySem.W.nsIn K mainGlobals "number_of" = some (some (.ref f4)))
    (l4 : K.lookup f4 = some ⟨oc4, od4, .func (PySem.W.fnOf "number_of" "number_of" (defArgs s_number_of) (defBody s_number_of) (defScope s_number_of) .none kV4 dc4 pm4 an4 cd4 ct4), sl4⟩)
    (c4 : PySem.W.codeIn K cd4 "number_of" = true)
    (k4 : PySem.W.keepIn K (.ref f4) = true)
    (a5 : PySem.W.nsIn K mainGlobals "_law_cell_at" = some (some (.ref f5)))
    (l5 : K.lookup f5 = some ⟨oc5, od5, .func (PySem.W.fnOf "_law_cell_at" "_law_cell_at" (defArgs s__law_cell_at) (defBody s__law_cell_at) (defScope s__law_cell_at) .none kV5 dc5 pm5 an5 cd5 ct5), sl5⟩)
    (c5 : PySem.W.codeIn K cd5 "_law_cell_at" = true)
    (k5 : PySem.W.keepIn K (.ref f5) = true)
    (a6 : PySem.W.nsIn K mainGlobals "_law_draw" = some (some (.ref f6)))
    (l6 : K.lookup f6 = some ⟨oc6, od6, .func (PySem.W.fnOf "_law_draw" "_law_draw" (defArgs s__law_draw) (defBody s__law_draw) (defScope s__law_draw) .none kV6 dc6 pm6 an6 cd6 ct6), sl6⟩)
    (c6 : PySem.W.codeIn K cd6 "_law_draw" = true)
    (k6 : PySem.W.keepIn K (.ref f6) = true)
    (a7 : PySem.W.nsIn K mainGlobals "_law_number" = some (some (.ref f7)))
    (l7 : K.lookup f7 = some ⟨oc7, od7, .func (PySem.W.fnOf "_law_number" "_law_number" (defArgs s__law_number) (defBody s__law_number) (defScope s__law_number) .none kV7 dc7 pm7 an7 cd7 ct7), sl7⟩)
    (c7 : PySem.W.codeIn K cd7 "_law_number" = true)
    (k7 : PySem.W.keepIn K (.ref f7) = true)
    (a8 : PySem.W.nsIn K mainGlobals "_law_pow" = some (some (.ref f8)))
    (l8 : K.lookup f8 = some ⟨oc8, od8, .func (PySem.W.fnOf "_law_pow" "_law_pow" (defArgs s__law_pow) (defBody s__law_pow) (defScope s__law_pow) .none kV8 dc8 pm8 an8 cd8 ct8), sl8⟩)
    (c8 : PySem.W.codeIn K cd8 "_law_pow" = true)
    (k8 : PySem.W.keepIn K (.ref f8) = true)
    (a9 : PySem.W.nsIn K mainGlobals "_law_numeral" = some (some (.ref f9)))
    (l9 : K.lookup f9 = some ⟨oc9, od9, .func (PySem.W.fnOf "_law_numeral" "_law_numeral" (defArgs s__law_numeral) (defBody s__law_numeral) (defScope s__law_numeral) .none kV9 dc9 pm9 an9 cd9 ct9), sl9⟩)
    (c9 : PySem.W.codeIn K cd9 "_law_numeral" = true)
    (k9 : PySem.W.keepIn K (.ref f9) = true)
    (a10 : PySem.W.nsIn K mainGlobals "_law_value" = some (some (.ref f10)))
    (l10 : K.lookup f10 = some ⟨oc10, od10, .func (PySem.W.fnOf "_law_value" "_law_value" (defArgs s__law_value) (defBody s__law_value) (defScope s__law_value) .none kV10 dc10 pm10 an10 cd10 ct10), sl10⟩)
    (c10 : PySem.W.codeIn K cd10 "_law_value" = true)
    (k10 : PySem.W.keepIn K (.ref f10) = true)
    (a11 : PySem.W.nsIn K mainGlobals "_law_whole" = some (some (.ref f11)))
    (l11 : K.lookup f11 = some ⟨oc11, od11, .func (PySem.W.fnOf "_law_whole" "_law_whole" (defArgs s__law_whole) (defBody s__law_whole) (defScope s__law_whole) .none kV11 dc11 pm11 an11 cd11 ct11), sl11⟩)
    (c11 : PySem.W.codeIn K cd11 "_law_whole" = true)
    (k11 : PySem.W.keepIn K (.ref f11) = true)
    (a12 : PySem.W.nsIn K mainGlobals "law" = some (some (.ref f12)))
    (l12 : K.lookup f12 = some ⟨oc12, od12, .func (PySem.W.fnOf "law" "law" (defArgs s_law) (defBody s_law) (defScope s_law) .none kV12 dc12 pm12 an12 cd12 ct12), sl12⟩)
    (c12 : PySem.W.codeIn K cd12 "law" = true)
    (k12 : PySem.W.keepIn K (.ref f12) = true)
    (g0 : PySem.W.nsIn K mainGlobals "KINDS" = some (some (.ref p0)))
    (q0 : K.lookup p0 = some ⟨.type "tuple", dd0, .seq us0 nn0, ss0⟩)
    (e0 : us0 = #[(.str (tS [102, 105, 103, 117, 114, 101, 115]) tk0), (.str (tS [108, 101, 116, 116, 101, 114, 115]) tk1), (.str (tS [114, 111, 109, 97, 110]) tk2)])
    (g1 : PySem.W.nsIn K mainGlobals "GREATEST" = some (some (.int 3099 tk3)))
    (g2 : PySem.W.nsIn K mainGlobals "LETTERS" = some (some (.str (tS [97, 98, 99, 100, 101, 102, 103, 104, 105, 106, 107, 108, 109, 110, 111, 112, 113, 114, 115, 116, 117, 118, 119, 120, 121, 122]) tk4)))
    (g3 : PySem.W.nsIn K mainGlobals "PIECES" = some (some (.ref p1)))
    (q1 : K.lookup p1 = some ⟨.type "tuple", dd1, .seq us1 nn1, ss1⟩)
    (e1 : us1 = #[(.ref p2), (.ref p3), (.ref p4), (.ref p5), (.ref p6), (.ref p7), (.ref p8), (.ref p9), (.ref p10), (.ref p11), (.ref p12), (.ref p13), (.ref p14)])
    (q2 : K.lookup p2 = some ⟨.type "tuple", dd2, .seq us2 nn2, ss2⟩)
    (e2 : us2 = #[(.int 1000 tk5), (.str (tS [109]) tk6)])
    (q3 : K.lookup p3 = some ⟨.type "tuple", dd3, .seq us3 nn3, ss3⟩)
    (e3 : us3 = #[(.int 900 tk7), (.str (tS [99, 109]) tk8)])
    (q4 : K.lookup p4 = some ⟨.type "tuple", dd4, .seq us4 nn4, ss4⟩)
    (e4 : us4 = #[(.int 500 tk9), (.str (tS [100]) tk10)])
    (q5 : K.lookup p5 = some ⟨.type "tuple", dd5, .seq us5 nn5, ss5⟩)
    (e5 : us5 = #[(.int 400 tk11), (.str (tS [99, 100]) tk12)])
    (q6 : K.lookup p6 = some ⟨.type "tuple", dd6, .seq us6 nn6, ss6⟩)
    (e6 : us6 = #[(.int 100 tk13), (.str (tS [99]) tk14)])
    (q7 : K.lookup p7 = some ⟨.type "tuple", dd7, .seq us7 nn7, ss7⟩)
    (e7 : us7 = #[(.int 90 tk15), (.str (tS [120, 99]) tk16)])
    (q8 : K.lookup p8 = some ⟨.type "tuple", dd8, .seq us8 nn8, ss8⟩)
    (e8 : us8 = #[(.int 50 tk17), (.str (tS [108]) tk18)])
    (q9 : K.lookup p9 = some ⟨.type "tuple", dd9, .seq us9 nn9, ss9⟩)
    (e9 : us9 = #[(.int 40 tk19), (.str (tS [120, 108]) tk20)])
    (q10 : K.lookup p10 = some ⟨.type "tuple", dd10, .seq us10 nn10, ss10⟩)
    (e10 : us10 = #[(.int 10 tk21), (.str (tS [120]) tk22)])
    (q11 : K.lookup p11 = some ⟨.type "tuple", dd11, .seq us11 nn11, ss11⟩)
    (e11 : us11 = #[(.int 9 tk23), (.str (tS [105, 120]) tk24)])
    (q12 : K.lookup p12 = some ⟨.type "tuple", dd12, .seq us12 nn12, ss12⟩)
    (e12 : us12 = #[(.int 5 tk25), (.str (tS [118]) tk26)])
    (q13 : K.lookup p13 = some ⟨.type "tuple", dd13, .seq us13 nn13, ss13⟩)
    (e13 : us13 = #[(.int 4 tk27), (.str (tS [105, 118]) tk28)])
    (q14 : K.lookup p14 = some ⟨.type "tuple", dd14, .seq us14 nn14, ss14⟩)
    (e14 : us14 = #[(.int 1 tk29), (.str (tS [105]) tk30)])
    (z0 : PySem.W.nsIn K mainGlobals "len" = some none)
    (z1 : PySem.W.nsIn K mainGlobals "abs" = some none)
    (z2 : PySem.W.nsIn K mainGlobals "max" = some none)
    (z3 : PySem.W.nsIn K mainGlobals "min" = some none)
    (z4 : PySem.W.nsIn K mainGlobals "all" = some none)
    (z5 : PySem.W.nsIn K mainGlobals "any" = some none)
    (z6 : PySem.W.nsIn K mainGlobals "str" = some none)
    (z7 : PySem.W.nsIn K mainGlobals "int" = some none)
    (z8 : PySem.W.nsIn K mainGlobals "list" = some none)
    (z9 : PySem.W.nsIn K mainGlobals "isinstance" = some none)
    (z10 : PySem.W.nsIn K mainGlobals "range" = some none)
    (z11 : PySem.W.nsIn K mainGlobals "enumerate" = some none)
    (z12 : PySem.W.nsIn K mainGlobals "zip" = some none)
    (z13 : PySem.W.nsIn K mainGlobals "bool" = some none)
    (z14 : PySem.W.nsIn K mainGlobals "tuple" = some none)
    (z15 : PySem.W.nsIn K mainGlobals "set" = some none)
    (z16 : PySem.W.nsIn K mainGlobals "sorted" = some none)
    (z17 : PySem.W.nsIn K mainGlobals "dict" = some none) :
    ∃ fd : FuncData, (∀ (s : Shared) (v : Value), BindsTo s fd ⟨[v], []⟩ [("_law_script", v)]) ∧ ∀ base : Heap, K.In base → base.Ns mainGlobals mg → FnOk PySem.Challenge.rw_listmarks_k02_whole_texts_read.prog w K mg base (L2.CX PySem.Challenge.rw_listmarks_k02_whole_texts_read.prog w) 13 fa fd ["_law_script"] (spD (TK K) (G.fn 15) 1) := by
  have e := hfa.symm.trans (PySem.W.mg_of X Gn a12)
  cases e
  have F0 := fun_mk (st := s_numeral_of) l0 c0 k0
  have b0 := F0.binds (ps := ["number", "kind"]) fun _ _ _ _ _ _ us hl => match us, hl with | [_, _], _ => rfl
  have F1 := fun_mk (st := s_value_of) l1 c1 k1
  have b1 := F1.binds (ps := ["text", "kind"]) fun _ _ _ _ _ _ us hl => match us, hl with | [_, _], _ => rfl
  have F2 := fun_mk (st := s_number_from) l2 c2 k2
  have b2 := F2.binds (ps := ["text", "kind"]) fun _ _ _ _ _ _ us hl => match us, hl with | [_, _], _ => rfl
  have F3 := fun_mk (st := s_check_kind) l3 c3 k3
  have b3 := F3.binds (ps := ["kind"]) fun _ _ _ _ _ _ us hl => match us, hl with | [_], _ => rfl
  have F4 := fun_mk (st := s_number_of) l4 c4 k4
  have b4 := F4.binds (ps := ["text", "kind"]) fun _ _ _ _ _ _ us hl => match us, hl with | [_, _], _ => rfl
  have F5 := fun_mk (st := s__law_cell_at) l5 c5 k5
  have b5 := F5.binds (ps := ["_law_script", "_law_k"]) fun _ _ _ _ _ _ us hl => match us, hl with | [_, _], _ => rfl
  have F6 := fun_mk (st := s__law_draw) l6 c6 k6
  have b6 := F6.binds (ps := ["_law_cell", "_law_k", "_law_most"]) fun _ _ _ _ _ _ us hl => match us, hl with | [_, _, _], _ => rfl
  have F7 := fun_mk (st := s__law_number) l7 c7 k7
  have b7 := F7.binds (ps := ["_law_cell", "_law_k", "_law_limit"]) fun _ _ _ _ _ _ us hl => match us, hl with | [_, _, _], _ => rfl
  have F8 := fun_mk (st := s__law_pow) l8 c8 k8
  have b8 := F8.binds (ps := ["_law_many"]) fun _ _ _ _ _ _ us hl => match us, hl with | [_], _ => rfl
  have F9 := fun_mk (st := s__law_numeral) l9 c9 k9
  have b9 := F9.binds (ps := ["_law_number_here", "_law_kind"]) fun _ _ _ _ _ _ us hl => match us, hl with | [_, _], _ => rfl
  have F10 := fun_mk (st := s__law_value) l10 c10 k10
  have b10 := F10.binds (ps := ["_law_text", "_law_kind"]) fun _ _ _ _ _ _ us hl => match us, hl with | [_, _], _ => rfl
  have F11 := fun_mk (st := s__law_whole) l11 c11 k11
  have b11 := F11.binds (ps := ["_law_found"]) fun _ _ _ _ _ _ us hl => match us, hl with | [_], _ => rfl
  have F12 := fun_mk (st := s_law) l12 c12 k12
  have b12 := F12.binds (ps := ["_law_script"]) fun _ _ _ _ _ _ us hl => match us, hl with | [_], _ => rfl
  refine ⟨PySem.W.fnOf "law" "law" (defArgs s_law) (defBody s_law) (defScope s_law) .none kV12 dc12 pm12 an12 cd12 ct12, fun s v => .of_eq rfl, fun base _ _ => prog_ok (T := TK K) rfl ck hF ?_ ?_ ?_ 12 12 (Nat.le_refl _) _ rfl _ _ F12⟩
  · intro j d hd
    match j, hd with
    | 0, hd => cases hd; exact ⟨f0, _, F0, b0, PySem.W.mg_of X Gn a0⟩
    | 1, hd => cases hd; exact ⟨f1, _, F1, b1, PySem.W.mg_of X Gn a1⟩
    | 2, hd => cases hd; exact ⟨f2, _, F2, b2, PySem.W.mg_of X Gn a2⟩
    | 3, hd => cases hd; exact ⟨f3, _, F3, b3, PySem.W.mg_of X Gn a3⟩
    | 4, hd => cases hd; exact ⟨f4, _, F4, b4, PySem.W.mg_of X Gn a4⟩
    | 5, hd => cases hd; exact ⟨f5, _, F5, b5, PySem.W.mg_of X Gn a5⟩
    | 6, hd => cases hd; exact ⟨f6, _, F6, b6, PySem.W.mg_of X Gn a6⟩
    | 7, hd => cases hd; exact ⟨f7, _, F7, b7, PySem.W.mg_of X Gn a7⟩
    | 8, hd => cases hd; exact ⟨f8, _, F8, b8, PySem.W.mg_of X Gn a8⟩
    | 9, hd => cases hd; exact ⟨f9, _, F9, b9, PySem.W.mg_of X Gn a9⟩
    | 10, hd => cases hd; exact ⟨f10, _, F10, b10, PySem.W.mg_of X Gn a10⟩
    | 11, hd => cases hd; exact ⟨f11, _, F11, b11, PySem.W.mg_of X Gn a11⟩
    | 12, hd => cases hd; exact ⟨fa, _, F12, b12, PySem.W.mg_of X Gn a12⟩
    | n + 13, hd => cases hd
  · intro j x hx
    have hx := look_mem hx
    simp only [cts, List.mem_cons, Prod.mk.injEq, List.not_mem_nil, or_false] at hx
    rcases hx with ⟨rfl, rfl⟩ | ⟨rfl, rfl⟩ | ⟨rfl, rfl⟩ | ⟨rfl, rfl⟩
    · obtain ⟨v, h1, h2⟩ : ∃ v, RelV v (.ref p0) ∧ ∀ H bk oa, Rep (TK K) H bk oa v (CT 0) := (con_tup (T := TK K) (us := [(.str (tS [102, 105, 103, 117, 114, 101, 115]) tk0), (.str (tS [108, 101, 116, 116, 101, 114, 115]) tk1), (.str (tS [114, 111, 109, 97, 110]) tk2)]) q0 rfl (by rw [e0]) (.cons (con_str (by decide +kernel)) (.cons (con_str (by decide +kernel)) (.cons (con_str (by decide +kernel)) .nil))) (show 3 ≤ 1000 by decide))
      exact ⟨_, v, PySem.W.mg_of X Gn g0, h1, h2⟩
    · obtain ⟨v, h1, h2⟩ : ∃ v, RelV v (.int 3099 tk3) ∧ ∀ H bk oa, Rep (TK K) H bk oa v (CT 1) := con_int
      exact ⟨_, v, PySem.W.mg_of X Gn g1, h1, h2⟩
    · obtain ⟨v, h1, h2⟩ : ∃ v, RelV v (.str (tS [97, 98, 99, 100, 101, 102, 103, 104, 105, 106, 107, 108, 109, 110, 111, 112, 113, 114, 115, 116, 117, 118, 119, 120, 121, 122]) tk4) ∧ ∀ H bk oa, Rep (TK K) H bk oa v (CT 2) := (con_str (by decide +kernel))
      exact ⟨_, v, PySem.W.mg_of X Gn g2, h1, h2⟩
    · obtain ⟨v, h1, h2⟩ : ∃ v, RelV v (.ref p1) ∧ ∀ H bk oa, Rep (TK K) H bk oa v (CT 3) := (con_tup (T := TK K) (us := [(.ref p2), (.ref p3), (.ref p4), (.ref p5), (.ref p6), (.ref p7), (.ref p8), (.ref p9), (.ref p10), (.ref p11), (.ref p12), (.ref p13), (.ref p14)]) q1 rfl (by rw [e1]) (.cons (con_tup (T := TK K) (us := [(.int 1000 tk5), (.str (tS [109]) tk6)]) q2 rfl (by rw [e2]) (.cons con_int (.cons (con_str (by decide +kernel)) .nil)) (show 2 ≤ 1000 by decide)) (.cons (con_tup (T := TK K) (us := [(.int 900 tk7), (.str (tS [99, 109]) tk8)]) q3 rfl (by rw [e3]) (.cons con_int (.cons (con_str (by decide +kernel)) .nil)) (show 2 ≤ 1000 by decide)) (.cons (con_tup (T := TK K) (us := [(.int 500 tk9), (.str (tS [100]) tk10)]) q4 rfl (by rw [e4]) (.cons con_int (.cons (con_str (by decide +kernel)) .nil)) (show 2 ≤ 1000 by decide)) (.cons (con_tup (T := TK K) (us := [(.int 400 tk11), (.str (tS [99, 100]) tk12)]) q5 rfl (by rw [e5]) (.cons con_int (.cons (con_str (by decide +kernel)) .nil)) (show 2 ≤ 1000 by decide)) (.cons (con_tup (T := TK K) (us := [(.int 100 tk13), (.str (tS [99]) tk14)]) q6 rfl (by rw [e6]) (.cons con_int (.cons (con_str (by decide +kernel)) .nil)) (show 2 ≤ 1000 by decide)) (.cons (con_tup (T := TK K) (us := [(.int 90 tk15), (.str (tS [120, 99]) tk16)]) q7 rfl (by rw [e7]) (.cons con_int (.cons (con_str (by decide +kernel)) .nil)) (show 2 ≤ 1000 by decide)) (.cons (con_tup (T := TK K) (us := [(.int 50 tk17), (.str (tS [108]) tk18)]) q8 rfl (by rw [e8]) (.cons con_int (.cons (con_str (by decide +kernel)) .nil)) (show 2 ≤ 1000 by decide)) (.cons (con_tup (T := TK K) (us := [(.int 40 tk19), (.str (tS [120, 108]) tk20)]) q9 rfl (by rw [e9]) (.cons con_int (.cons (con_str (by decide +kernel)) .nil)) (show 2 ≤ 1000 by decide)) (.cons (con_tup (T := TK K) (us := [(.int 10 tk21), (.str (tS [120]) tk22)]) q10 rfl (by rw [e10]) (.cons con_int (.cons (con_str (by decide +kernel)) .nil)) (show 2 ≤ 1000 by decide)) (.cons (con_tup (T := TK K) (us := [(.int 9 tk23), (.str (tS [105, 120]) tk24)]) q11 rfl (by rw [e11]) (.cons con_int (.cons (con_str (by decide +kernel)) .nil)) (show 2 ≤ 1000 by decide)) (.cons (con_tup (T := TK K) (us := [(.int 5 tk25), (.str (tS [118]) tk26)]) q12 rfl (by rw [e12]) (.cons con_int (.cons (con_str (by decide +kernel)) .nil)) (show 2 ≤ 1000 by decide)) (.cons (con_tup (T := TK K) (us := [(.int 4 tk27), (.str (tS [105, 118]) tk28)]) q13 rfl (by rw [e13]) (.cons con_int (.cons (con_str (by decide +kernel)) .nil)) (show 2 ≤ 1000 by decide)) (.cons (con_tup (T := TK K) (us := [(.int 1 tk29), (.str (tS [105]) tk30)]) q14 rfl (by rw [e14]) (.cons con_int (.cons (con_str (by decide +kernel)) .nil)) (show 2 ≤ 1000 by decide)) .nil))))))))))))) (show 13 ≤ 1000 by decide))
      exact ⟨_, v, PySem.W.mg_of X Gn g3, h1, h2⟩
  · intro x hx
    simp only [bltNames, List.mem_cons, List.not_mem_nil, or_false] at hx
    rcases hx with rfl | rfl | rfl | rfl | rfl | rfl | rfl | rfl | rfl | rfl | rfl | rfl | rfl | rfl | rfl | rfl | rfl | rfl
    · exact PySem.W.mg_none_of X Gn z0
    · exact PySem.W.mg_none_of X Gn z1
    · exact PySem.W.mg_none_of X Gn z2
    · exact PySem.W.mg_none_of X Gn z3
    · exact PySem.W.mg_none_of X Gn z4
    · exact PySem.W.mg_none_of X Gn z5
    · exact PySem.W.mg_none_of X Gn z6
    · exact PySem.W.mg_none_of X Gn z7
    · exact PySem.W.mg_none_of X Gn z8
    · exact PySem.W.mg_none_of X Gn z9
    · exact PySem.W.mg_none_of X Gn z10
    · exact PySem.W.mg_none_of X Gn z11
    · exact PySem.W.mg_none_of X Gn z12
    · exact PySem.W.mg_none_of X Gn z13
    · exact PySem.W.mg_none_of X Gn z14
    · exact PySem.W.mg_none_of X Gn z15
    · exact PySem.W.mg_none_of X Gn z16
    · exact PySem.W.mg_none_of X Gn z17
end K02
open PySem PySem.W PyProof.Rows
set_option maxHeartbeats 0 in
theorem PySem.Challenge.cw_listmarks_k02_whole_texts_read_holds : PySem.Challenge.rw_listmarks_k02_whole_texts_read.Holds := by
  w_on; o_law; k_head; (case hw => w_witness2)
  k_fill
  refine L2.walk_of (l := PySem.Challenge.rw_listmarks_k02_whole_texts_read) (n := 63) (k := 13) (x := "_law_script") (CX := fun w => L2.CX PySem.Challenge.rw_listmarks_k02_whole_texts_read.prog w) (sp := fun w => B.spD (K02.TK _) (K02.G.fn 15) 1) rfl (by decide) rfl ⟨rfl, by decide, by decide⟩ (fun w h Y => PySem.W.kIn_of Y) ?F (fun w H a ns hl hO hS => B.law_end rfl hO hS (K02.m_law_ok ns hl)) (fun w H s e s' h => by obtain ⟨_, _, _, _, _, _, _, _, _, _, _, _, z⟩ := h; exact z)
  case F =>
    intro w mg fa h KX G hmg
    refine' K02.all_mk KX G hmg ?y_a0 ?y_l0 ?y_c0 ?y_k0 ?y_a1 ?y_l1 ?y_c1 ?y_k1 ?y_a2 ?y_l2 ?y_c2 ?y_k2 ?y_a3 ?y_l3 ?y_c3 ?y_k3 ?y_a4 ?y_l4 ?y_c4 ?y_k4 ?y_a5 ?y_l5 ?y_c5 ?y_k5 ?y_a6 ?y_l6 ?y_c6 ?y_k6 ?y_a7 ?y_l7 ?y_c7 ?y_k7 ?y_a8 ?y_l8 ?y_c8 ?y_k8 ?y_a9 ?y_l9 ?y_c9 ?y_k9 ?y_a10 ?y_l10 ?y_c10 ?y_k10 ?y_a11 ?y_l11 ?y_c11 ?y_k11 ?y_a12 ?y_l12 ?y_c12 ?y_k12 ?y_g0 ?y_q0 ?y_e0 ?y_g1 ?y_g2 ?y_g3 ?y_q1 ?y_e1 ?y_q2 ?y_e2 ?y_q3 ?y_e3 ?y_q4 ?y_e4 ?y_q5 ?y_e5 ?y_q6 ?y_e6 ?y_q7 ?y_e7 ?y_q8 ?y_e8 ?y_q9 ?y_e9 ?y_q10 ?y_e10 ?y_q11 ?y_e11 ?y_q12 ?y_e12 ?y_q13 ?y_e13 ?y_q14 ?y_e14 ?y_z0 ?y_z1 ?y_z2 ?y_z3 ?y_z4 ?y_z5 ?y_z6 ?y_z7 ?y_z8 ?y_z9 ?y_z10 ?y_z11 ?y_z12 ?y_z13 ?y_z14 ?y_z15 ?y_z16 ?y_z17
    (case y_a0 => k_is)
    (case y_l0 => k_is)
    (case y_c0 => k_is)
    (case y_k0 => k_is)
    (case y_a1 => k_is)
    (case y_l1 => k_is)
    (case y_c1 => k_is)
    (case y_k1 => k_is)
    (case y_a2 => k_is)
    (case y_l2 => k_is)
    (case y_c2 => k_is)
    (case y_k2 => k_is)
    (case y_a3 => k_is)
    (case y_l3 => k_is)
    (case y_c3 => k_is)
    (case y_k3 => k_is)
    (case y_a4 => k_is)
    (case y_l4 => k_is)
    (case y_c4 => k_is)
    (case y_k4 => k_is)
    (case y_a5 => k_is)
    (case y_l5 => k_is)
    (case y_c5 => k_is)
    (case y_k5 => k_is)
    (case y_a6 => k_is)
    (case y_l6 => k_is)
    (case y_c6 => k_is)
    (case y_k6 => k_is)
    (case y_a7 => k_is)
    (case y_l7 => k_is)
    (case y_c7 => k_is)
    (case y_k7 => k_is)
    (case y_a8 => k_is)
    (case y_l8 => k_is)
    (case y_c8 => k_is)
    (case y_k8 => k_is)
    (case y_a9 => k_is)
    (case y_l9 => k_is)
    (case y_c9 => k_is)
    (case y_k9 => k_is)
    (case y_a10 => k_is)
    (case y_l10 => k_is)
    (case y_c10 => k_is)
    (case y_k10 => k_is)
    (case y_a11 => k_is)
    (case y_l11 => k_is)
    (case y_c11 => k_is)
    (case y_k11 => k_is)
    (case y_a12 => k_is)
    (case y_l12 => k_is)
    (case y_c12 => k_is)
    (case y_k12 => k_is)
    (case y_g0 => k_is)
    (case y_q0 => k_is)
    (case y_e0 => rfl)
    (case y_g1 => k_is)
    (case y_g2 => k_is)
    (case y_g3 => k_is)
    (case y_q1 => k_is)
    (case y_e1 => rfl)
    (case y_q2 => k_is)
    (case y_e2 => rfl)
    (case y_q3 => k_is)
    (case y_e3 => rfl)
    (case y_q4 => k_is)
    (case y_e4 => rfl)
    (case y_q5 => k_is)
    (case y_e5 => rfl)
    (case y_q6 => k_is)
    (case y_e6 => rfl)
    (case y_q7 => k_is)
    (case y_e7 => rfl)
    (case y_q8 => k_is)
    (case y_e8 => rfl)
    (case y_q9 => k_is)
    (case y_e9 => rfl)
    (case y_q10 => k_is)
    (case y_e10 => rfl)
    (case y_q11 => k_is)
    (case y_e11 => rfl)
    (case y_q12 => k_is)
    (case y_e12 => rfl)
    (case y_q13 => k_is)
    (case y_e13 => rfl)
    (case y_q14 => k_is)
    (case y_e14 => rfl)
    (case y_z0 => k_is)
    (case y_z1 => k_is)
    (case y_z2 => k_is)
    (case y_z3 => k_is)
    (case y_z4 => k_is)
    (case y_z5 => k_is)
    (case y_z6 => k_is)
    (case y_z7 => k_is)
    (case y_z8 => k_is)
    (case y_z9 => k_is)
    (case y_z10 => k_is)
    (case y_z11 => k_is)
    (case y_z12 => k_is)
    (case y_z13 => k_is)
    (case y_z14 => k_is)
    (case y_z15 => k_is)
    (case y_z16 => k_is)
    (case y_z17 => k_is)
end
