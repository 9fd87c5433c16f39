import PyProof.Rows.All
import Wide.All
import OpenK.AllK
import Wide.FinOn
import HandS.ForMost
import HandS.ForExc
import KE.SortData
import KE.DataMinMax
import HandS.TupSets
import HandS.SortKw
import HandS.Strs
import KE.OsSetLaws
import HandS.SetKeys
import HandS.Conv
import KE.KDictPairs
import HandS.Zip
import KE.GoesZip
import KE.GoesMore
import KE.GoesEnum
import HandS.ExcInit
import PyProof.ReprRoads
import PyProof.ReprBulk
import HandS.Ends
import HandS.TupAny
import HandS.Style
import HandS.List
import HandS.Wide
import HandS.IsInst
import HandS.Deep
import HandS.Flow
import HandS.CallSlots
import HandS.Flt
import HandS.Replace
import HandS.ExcIs
import HandS.ExcField
import PySem.Challenge.RW_boundsmith_k80_as_hard_in_each_point
set_option Elab.async false
set_option linter.all false
set_option maxRecDepth 100000
set_option autoImplicit false
/-! Zdef: a small language that mirrors the program's Python, its values with tuples as plain data, and what must hold ahead of a piece of it (weakest preconditions), as plain Lean. -/
namespace Z
open PySem

/-! ### values -/
inductive PV where
  | non | bl (b : Bool) | int (i : Int) | str (s : Str) | tup (xs : List PV) | ref (i : Nat) | ils (xs : List PV) | itp (xs : List PV) | exc (c : Str) (ns : List Str) (vs : List PV)

abbrev At := Sum Int Str
inductive Ky where
  | one (k : At) | many (ks : List At)
  deriving DecidableEq

/-- what lies at a place of the heap -/
inductive Ob where
  | lst (xs : List PV) | dic (kvs : List (Ky × PV)) | ins (c : Str) (fs : List (Str × PV)) | ldc (u : L2.HO) (kvs : List (Ky × PV))

abbrev Hep := List Ob
abbrev Env := List (Option PV)
structure XV where
  cls : Str
  fs : List (Str × PV)
abbrev KQ := PV → Hep → Prop
abbrev KX := XV → Hep → Prop
abbrev KB := Bool → Hep → Prop
abbrev Spec := List PV → Hep → KQ → KX → Prop
abbrev noX : KX := fun _ _ => False

def big : Nat := 16777216

/-! ### keys, dicts -/
def keyAtom : PV → Option At
  | .int i => some (.inl i)
  | .str s => some (.inr s)
  | _ => none
def keyAtoms : List PV → Option (List At)
  | [] => some []
  | x :: xs => match keyAtom x, keyAtoms xs with
    | some k, some ks => some (k :: ks)
    | _, _ => none
def keyOf : PV → Option Ky
  | .tup xs => (keyAtoms xs).map Ky.many
  | .int i => some (.one (.inl i))
  | .str s => some (.one (.inr s))
  | _ => none
def atomV : At → PV
  | .inl i => .int i
  | .inr s => .str s
def keyV : Ky → PV
  | .one k => atomV k
  | .many ks => .tup (ks.map atomV)
def dget (k : Ky) : List (Ky × PV) → Option PV
  | [] => none
  | (j, v) :: r => if j = k then some v else dget k r
/-- in its place, or at the end -/
def dput (k : Ky) (v : PV) (kvs : List (Ky × PV)) : List (Ky × PV) :=
  if (dget k kvs).isSome = true then kvs.map (fun p => if p.1 = k then (p.1, v) else p) else kvs ++ [(k, v)]
def ddel (k : Ky) (kvs : List (Ky × PV)) : List (Ky × PV) := kvs.filter fun p => decide (p.1 ≠ k)
def sameKind : Ky → Ky → Bool
  | .one _, .one _ => true
  | .many _, .many _ => true
  | _, _ => false
/-- a dict holds keys of one kind -/
def kindOk (k : Ky) : List (Ky × PV) → Bool
  | [] => true
  | (j, _) :: _ => sameKind j k

/-! ### reading the heap -/
def getL (h : Hep) (r : Nat) (F : List PV → Prop) : Prop := match h[r]? with | some (.lst xs) => F xs | _ => False
def getD (h : Hep) (r : Nat) (F : List (Ky × PV) → Prop) : Prop := match h[r]? with | some (.dic xs) => F xs | _ => False
def getO (h : Hep) (r : Nat) (F : Str → List (Str × PV) → Prop) : Prop := match h[r]? with | some (.ins c fs) => F c fs | _ => False
/-- a list that may be read -/
def listW (h : Hep) (x : PV) (F : List PV → Prop) : Prop := match x with
  | .ref r => getL h r F
  | .ils xs => F xs
  | _ => False
/-- a list or a tuple -/
def seqW (h : Hep) (x : PV) (F : List PV → Prop) : Prop := match x with
  | .ref r => getL h r F
  | .ils xs => F xs
  | .tup xs => F xs
  | .itp xs => F xs
  | _ => False
def intsOf : List PV → Option (List Int)
  | [] => some []
  | .int i :: r => (intsOf r).map (i :: ·)
  | _ :: _ => none
def boolsOf : List PV → Option (List Bool)
  | [] => some []
  | .bl i :: r => (boolsOf r).map (i :: ·)
  | _ :: _ => none
def strsOf : List PV → Option (List Str)
  | [] => some []
  | .str i :: r => (strsOf r).map (i :: ·)
  | _ :: _ => none

/-! ### data, for == -/
def datAll (f : PV → Option PyData) : List PV → Option (List PyData)
  | [] => some []
  | x :: xs => match f x, datAll f xs with
    | some d, some ds => some (d :: ds)
    | _, _ => none
def dat (h : Hep) : Nat → PV → Option PyData
  | _, .non => some .none
  | _, .bl b => some (.bool b)
  | _, .int i => some (.int i)
  | _, .str s => some (.str s)
  | _, .exc _ _ _ => none
  | 0, _ => none
  | n + 1, .tup xs => (datAll (dat h n) xs).map .tuple
  | n + 1, .itp xs => (datAll (dat h n) xs).map .tuple
  | n + 1, .ils xs => (datAll (dat h n) xs).map .list
  | n + 1, .ref r => match h[r]? with | some (.lst xs) => (datAll (dat h n) xs).map .list | _ => none
/-- x == y is K's argument -/
def eqW (h : Hep) (x y : PV) (K : Bool → Prop) : Prop :=
  (∃ d e, dat h 60 x = some d ∧ dat h 60 y = some e ∧ SeqAt.shaped d = true ∧ SeqAt.shaped e = true ∧ K (PyData.eqv d e)) ∨ ∃ s t, x = .str s ∧ y = .str t ∧ K (s == t)

/-! ### truth -/
def truW (h : Hep) (x : PV) (K : Bool → Prop) : Prop := match x with
  | .non => K false
  | .bl b => K b
  | .int i => K (i != 0)
  | .str s => s.length ≤ big ∧ K ((s.length : Int) != 0)
  | .tup xs => K (!xs.isEmpty)
  | .ils xs => K (!xs.isEmpty)
  | .itp xs => K (!xs.isEmpty)
  | .ref r => getL h r fun xs => K (!xs.isEmpty)
  | .exc _ _ _ => False

/-! ### operators -/
def mulOk (i j : Int) : Prop := (-(2 ^ 64) < i ∧ i < 2 ^ 64) ∨ (-(2 ^ 64) < j ∧ j < 2 ^ 64) ∨ i.natAbs.log2 + j.natAbs.log2 < 1000000
def divOk (j : Int) : Prop := 0 < j ∧ j.natAbs.log2 < 9000
def powOk (i j : Int) : Prop := 0 ≤ j ∧ j ≤ 1000000 ∧ i.natAbs < 2 ^ 64
def binI (o : Operator) (i j : Int) (F : Int → Prop) : Prop := match o with
  | .Add => F (i + j)
  | .Sub => F (i - j)
  | .Mult => mulOk i j ∧ F (i * j)
  | .FloorDiv => divOk j ∧ F (i / j)
  | .Mod => 0 < j ∧ F (i % j)
  | .Pow => powOk i j ∧ F (i ^ j.toNat)
  | .LShift => powOk i j ∧ F (i * 2 ^ j.toNat)
  | .RShift => 0 ≤ j ∧ F (i / 2 ^ j.toNat)
  | .BitAnd => F (Builtin.bitAnd i j)
  | _ => False
/-- a text some times -/
def strRep (s : Str) (n : Nat) : Str := ⟨(List.replicate n s.cps.toList).flatten.toArray⟩
/-- the signs of a text -/
def signsOf (s : Str) : List PV := s.cps.toList.map fun c => .str ⟨#[c]⟩
def binW (o : Operator) (x y : PV) (h : Hep) (F : KQ) : Prop := match x, y with
  | .int i, .int j => binI o i j fun k => F (.int k) h
  | .str s, .str t => o = .Add ∧ s.length + t.length ≤ big ∧ F (.str (s ++ t)) h
  | .str s, .int k => o = .Mult ∧ 0 ≤ k ∧ k ≤ 1000000 ∧ s.length * k.toNat ≤ 1000000 ∧ F (.str (strRep s k.toNat)) h
  | .tup xs, .tup ys => o = .Add ∧ xs.length + ys.length ≤ big ∧ F (.tup (xs ++ ys)) h
  | .itp xs, .itp ys => o = .Add ∧ xs.length + ys.length ≤ big ∧ F (.itp (xs ++ ys)) h
  | .ref r, .ref q => o = .Add ∧ getL h r fun xs => getL h q fun ys => xs.length + ys.length ≤ big ∧ F (.ref h.length) (h ++ [.lst (xs ++ ys)])
  | .ref r, .int k => o = .Mult ∧ getL h r fun xs => -(2 ^ 63) ≤ k ∧ k < 2 ^ 63 ∧ xs.length * k.toNat ≤ big ∧ F (.ref h.length) (h ++ [.lst ((List.replicate k.toNat xs).flatten)])
  | _, _ => False

/-! ### comparisons -/
/-- the order of texts by their codes -/
def strLt (s t : Str) : Bool := decide (s.cps.toList < t.cps.toList)
def inL (h : Hep) (x : PV) (ys : List PV) (K : Bool → Prop) : Prop :=
  ∃ d es, dat h 59 x = some d ∧ SeqAt.shaped d = true ∧ datAll (dat h 59) ys = some es ∧ PyData.canLayAll0 es = true ∧ K (es.any fun e => PyData.eqv e d)
def inW (h : Hep) (x y : PV) (K : Bool → Prop) : Prop := match y with
  | .str t => (match x with | .str s => K (!(Builtin.Str.occurrences t s 0 t.length 1).isEmpty) | _ => False)
  | .tup ys => inL h x ys K
  | .ils ys => inL h x ys K
  | .itp ys => inL h x ys K
  | .ref r => (match h[r]? with
    | some (.lst ys) => inL h x ys K
    | some (.dic kvs) => ∃ k, keyOf x = some k ∧ kindOk k kvs = true ∧ K (dget k kvs).isSome
    | _ => False)
  | _ => False
def cmpW (o : CmpOp) (x y : PV) (h : Hep) (K : Bool → Prop) : Prop := match o with
  | .Lt => (match x, y with | .int i, .int j => K (decide (i < j)) | .str s, .str t => K (strLt s t) | _, _ => False)
  | .LtE => (match x, y with | .int i, .int j => K (decide (i ≤ j)) | _, _ => False)
  | .Gt => (match x, y with | .int i, .int j => K (decide (j < i)) | _, _ => False)
  | .GtE => (match x, y with | .int i, .int j => K (decide (j ≤ i)) | _, _ => False)
  | .Eq => eqW h x y K
  | .NotEq => eqW h x y fun b => K (!b)
  | .Is => (match y with | .non => K (match x with | .non => true | _ => false) | .bl b => (match x with | .bl a => K (decide (a = b)) | _ => False) | _ => False)
  | .IsNot => (match y with | .non => K (match x with | .non => false | _ => true) | .bl b => (match x with | .bl a => K (!decide (a = b)) | _ => False) | _ => False)
  | .In => inW h x y K
  | .NotIn => inW h x y fun b => K (!b)

/-! ### places, slices -/
abbrev ixN := L2.ixN
abbrev sIx := HT.sIx
def cutL {α : Type} (xs : List α) (lo hi : Option Int) : List α := (xs.drop (sIx xs.length 0 lo)).take (sIx xs.length xs.length hi - sIx xs.length 0 lo)
def itemW (x i : PV) (h : Hep) (F : KQ) : Prop := match x, i with
  | .tup xs, .int i => ∃ j v, ixN xs.length i = some j ∧ xs[j]? = some v ∧ F v h
  | .ils xs, .int i => ∃ j v, ixN xs.length i = some j ∧ xs[j]? = some v ∧ F v h
  | .itp xs, .int i => ∃ j v, ixN xs.length i = some j ∧ xs[j]? = some v ∧ F v h
  | .str s, .int i => ∃ j c, s.length ≤ big ∧ ixN s.cps.toList.length i = some j ∧ s.cps.toList[j]? = some c ∧ F (.str ⟨#[c]⟩) h
  | .ref r, i => (match h[r]? with
    | some (.lst xs) => (match i with | .int i => ∃ j v, ixN xs.length i = some j ∧ xs[j]? = some v ∧ F v h | _ => False)
    | some (.dic kvs) => ∃ k v, keyOf i = some k ∧ dget k kvs = some v ∧ F v h
    | some (.ldc _ kvs) => ∃ k v, keyOf i = some k ∧ dget k kvs = some v ∧ F v h
    | _ => False)
  | _, _ => False
def sliceW (x : PV) (lo hi : Option Int) (h : Hep) (F : KQ) : Prop := match x with
  | .tup xs => F (.tup (cutL xs lo hi)) h
  | .ils xs => F (.ref h.length) (h ++ [.lst (cutL xs lo hi)])
  | .ref r => getL h r fun xs => F (.ref h.length) (h ++ [.lst (cutL xs lo hi)])
  | .str s => s.length ≤ big ∧ F (.str (L2.cutS s lo hi)) h
  | .itp xs => F (.itp (cutL xs lo hi)) h
  | _ => False
/-- x[::-1] -/
def revW (x : PV) (h : Hep) (F : KQ) : Prop := match x with
  | .itp xs => F (.itp xs.reverse) h
  | .ref r => getL h r fun ys => F (.ref h.length) (h ++ [.lst ys.reverse])
  | .ils ys => F (.ref h.length) (h ++ [.lst ys.reverse])
  | _ => False
/-- o[i] = v -/
def storeW (x i v : PV) (h : Hep) (F : Hep → Prop) : Prop := match x with
  | .ref r => (match h[r]? with
    | some (.lst xs) => (match i with | .int i => ∃ j, ixN xs.length i = some j ∧ F (h.set r (.lst (xs.set j v))) | _ => False)
    | some (.dic kvs) => ∃ k, keyOf i = some k ∧ kindOk k kvs = true ∧ kvs.length < big ∧ F (h.set r (.dic (dput k v kvs)))
    | _ => False)
  | _ => False

/-! ### the order of data, for sorted, min, max: ints, texts, tuples of such -/
def cmpA {α : Type} (lt : α → α → Bool) (x y : α) : Ordering := if lt x y then .lt else if lt y x then .gt else .eq
mutual
def cmpP : PV → PV → Ordering
  | .int i, .int j => cmpA (fun a b => decide (a < b)) i j
  | .str s, .str t => cmpA strLt s t
  | .tup xs, .tup ys => cmpPs xs ys
  | _, _ => .eq
def cmpPs : List PV → List PV → Ordering
  | [], [] => .eq
  | [], _ :: _ => .lt
  | _ :: _, [] => .gt
  | x :: xs, y :: ys => match cmpP x y with | .lt => .lt | .gt => .gt | .eq => cmpPs xs ys
end
def ltP (x y : PV) : Bool := cmpP x y == .lt
def insP (x : PV) : List PV → List PV
  | [] => [x]
  | y :: r => if ltP x y then x :: y :: r else y :: insP x r
/-- sorted, stable -/
def sortP (xs : List PV) : List PV := xs.foldl (fun acc x => insP x acc) []

/-- each once, where it comes first -/
def firsts {κ : Type} [DecidableEq κ] (xs : List κ) : List κ := xs.foldl (fun acc k => if k ∈ acc then acc else acc ++ [k]) []
/-- pairs of a key and a thing -/
def pairsOf : List PV → Option (List (At × PV))
  | [] => some []
  | .tup [k, v] :: r => (match keyAtom k, pairsOf r with | some a, some ps => some ((a, v) :: ps) | _, _ => none)
  | .itp [k, v] :: r => (match keyAtom k, pairsOf r with | some a, some ps => some ((a, v) :: ps) | _, _ => none)
  | _ :: _ => none
def dputs (acc : List (Ky × PV)) (ps : List (At × PV)) : List (Ky × PV) := ps.foldl (fun d p => dput (.one p.1) p.2 d) acc
/-- a list, or a tuple that is known whole -/
def pairW (h : Hep) (x : PV) (F : List PV → Prop) : Prop := match x with
  | .ref r => getL h r F
  | .ils xs => F xs
  | .itp xs => F xs
  | _ => False
/-- d.get(k) -/
def dgetW (h : Hep) (x y : PV) (G : Option PV → Prop) : Prop := match x with
  | .ref r => getD h r fun kvs => ∃ k, keyOf y = some k ∧ kindOk k kvs = true ∧ G (dget k kvs)
  | _ => False
def isD (h : Hep) (x : PV) : Prop := match x with | .ref r => getD h r fun _ => True | _ => False

/-! ### built-ins by their names -/
inductive BI where
  | len | max2 | min2 | sum | all | any | list | tuple | lenset | listrange | int | maxl | minl | sorted | sortedset | max3 | min3 | dict | xtuple | lenkeys
  deriving DecidableEq
inductive IT where
  | int | bool | str | list | tuple | dict
  deriving DecidableEq
def maxL : List Int → Int
  | [] => 0
  | [x] => x
  | x :: y :: r => max x (maxL (y :: r))
def minL : List Int → Int
  | [] => 0
  | [x] => x
  | x :: y :: r => min x (minL (y :: r))
/-- sorted, by the data -/
def sortZ (ys : List PV) (ds : List PyData) : List PV := ((ys.zip ds).mergeSort (PySem.W.dataLe false fun p => p.2)).map (·.1)
def biW (b : BI) (xs : List PV) (h : Hep) (F : KQ) : Prop := match b, xs with
  | .len, [.str s] => s.length ≤ big ∧ F (.int s.length) h
  | .len, [.tup ys] => F (.int ys.length) h
  | .len, [.ils ys] => F (.int ys.length) h
  | .len, [.itp ys] => F (.int ys.length) h
  | .len, [.ref r] => getL h r fun ys => F (.int ys.length) h
  | .max2, [.int i, .int j] => F (.int (max i j)) h
  | .min2, [.int i, .int j] => F (.int (min i j)) h
  | .max3, [.int i, .int j, .int k] => F (.int (max (max i j) k)) h
  | .min3, [.int i, .int j, .int k] => F (.int (min (min i j) k)) h
  | .sum, [x] => listW h x fun ys => ∃ ns, intsOf ys = some ns ∧ F (.int ns.sum) h
  | .all, [x] => listW h x fun ys => ∃ bs, boolsOf ys = some bs ∧ F (.bl (bs.all id)) h
  | .any, [x] => listW h x fun ys => ∃ bs, boolsOf ys = some bs ∧ F (.bl (bs.any id)) h
  | .list, [x] => seqW h x fun ys => F (.ref h.length) (h ++ [.lst ys])
  | .tuple, [.tup ys] => F (.tup ys) h
  | .tuple, [.itp ys] => F (.itp ys) h
  | .tuple, [x] => listW h x fun ys => F (.tup ys) h
  | .listrange, [.int n] => -(2 ^ 62) ≤ n ∧ n ≤ big ∧ F (.ref h.length) (h ++ [.lst ((List.range n.toNat).map fun (i : Nat) => PV.int i)])
  | .listrange, [.int a, .int b] => -(2 ^ 62) ≤ a ∧ a < 2 ^ 62 ∧ -(2 ^ 62) ≤ b ∧ b < 2 ^ 62 ∧ b - a ≤ big ∧ F (.ref h.length) (h ++ [.lst ((List.range (b - a).toNat).map fun (i : Nat) => PV.int (a + i))])
  | .maxl, [x] => seqW h x fun ys => ∃ ns, intsOf ys = some ns ∧ ns ≠ [] ∧ F (.int (maxL ns)) h
  | .minl, [x] => seqW h x fun ys => ∃ ns, intsOf ys = some ns ∧ ns ≠ [] ∧ F (.int (minL ns)) h
  | .lenset, [x] => listW h x fun ys => ∃ ns, intsOf ys = some ns ∧ ns.length ≤ 4000 ∧ ns.Nodup ∧ F (.int ns.length) h
  | .sorted, [x] => seqW h x fun ys => ∃ ds, datAll (dat h 59) ys = some ds ∧ PySem.W.AllAlike ds ∧ PySem.W.Sortable ds ∧ F (.ref h.length) (h ++ [.lst (sortZ ys ds)])
  | .sortedset, [x] => seqW h x fun ys => ∃ ns, intsOf ys = some ns ∧ ns.length < 64 ∧ ∀ ms : List Int, ms.Pairwise (· < ·) → (∀ k, k ∈ ms ↔ k ∈ ns) → F (.ref h.length) (h ++ [.lst (ms.map PV.int)])
  | .dict, [x] => pairW h x fun ys => ∃ ps, pairsOf ys = some ps ∧ F (.ref h.length) (h ++ [.dic (dputs [] ps)])
  | .xtuple, [x] => listW h x fun ys => F (.itp ys) h
  | .lenkeys, [x] => listW h x fun ys => ∃ ks, keyAtoms ys = some ks ∧ ks.length ≤ 4000 ∧ F (.int (firsts ks).length) h
  | .int, [.int i] => F (.int i) h
  | .int, [.bl b] => F (.int (if b then 1 else 0)) h
  | .int, [.str s] => ∃ n, PySem.intText? s = some n ∧ s.length ≤ 640 ∧ F (.int n) h
  | _, _ => False
/-- isinstance -/
def isT (t : IT) (h : Hep) (x : PV) (K : Bool → Prop) : Prop := match x with
  | .non => K false
  | .bl _ => K (t == .bool || t == .int)
  | .int _ => K (t == .int)
  | .str _ => K (t == .str)
  | .tup _ => K (t == .tuple)
  | .ils _ => K (t == .list)
  | .itp _ => K (t == .tuple)
  | .exc _ _ _ => False
  | .ref r => match h[r]? with | some (.lst _) => K (t == .list) | some (.dic _) => K (t == .dict) | _ => False

/-! ### methods of built-in types -/
inductive MI where
  | append | pop | popAt | index | remove | extend | clear
  deriving DecidableEq
def isL (h : Hep) (x : PV) : Prop := match x with | .ref r => getL h r fun _ => True | _ => False
def miW (m : MI) (x : PV) (xs : List PV) (h : Hep) (F : KQ) : Prop := match m, x, xs with
  | .append, .ref r, [v] => getL h r fun ys => ys.length < big ∧ F .non (h.set r (.lst (ys ++ [v])))
  | .pop, .ref r, [] => getL h r fun ys => ∃ v, ys[ys.length - 1]? = some v ∧ F v (h.set r (.lst ys.dropLast))
  | .popAt, .ref r, [.int i] => getL h r fun ys => ∃ j v, -(2 ^ 63) ≤ i ∧ i < 2 ^ 63 ∧ ixN ys.length i = some j ∧ ys[j]? = some v ∧ F v (h.set r (.lst (ys.eraseIdx j)))
  | .index, .ref r, [v] => getL h r fun ys => ∃ d ds j z, dat h 59 v = some d ∧ SeqAt.shaped d = true ∧ datAll (dat h 59) ys = some ds ∧ PyData.canLayAll0 ds = true ∧ ds[j]? = some z ∧ PyData.eqv z d = true ∧
      (∀ (m : Nat) (z' : PyData), m < j → ds[m]? = some z' → PyData.eqv z' d = false) ∧ F (.int (j : Nat)) h
  | .remove, .ref r, [.int i] => getL h r fun ys => ∃ ns j, intsOf ys = some ns ∧ ns[j]? = some i ∧ (∀ m : Nat, m < j → ns[m]? ≠ some i) ∧ F .non (h.set r (.lst (ys.eraseIdx j)))
  | .extend, .ref r, [.ref q] => getL h r fun ys => getL h q fun zs => ys.length + zs.length ≤ big ∧ F .non (h.set r (.lst (ys ++ zs)))
  | .clear, .ref r, [] => getL h r fun _ => F .non (h.set r (.lst []))
  | _, _, _ => False

/-! ### methods of texts, with one argument -/
inductive SM where
  | join | index
  deriving DecidableEq
def isS (x : PV) : Prop := match x with | .str _ => True | _ => False
/-- texts, one behind the other, a text between them -/
def joinZ (a : Str) (ys : List Str) : Str := PySem.Txt.join a ys
def smW (m : SM) (x y : PV) (h : Hep) (F : KQ) : Prop := match m, x with
  | .join, .str a => seqW h y fun ys => ∃ ss, strsOf ys = some ss ∧ (ss.map (·.length)).sum + ss.length * a.length ≤ big ∧ F (.str (joinZ a ss)) h
  | .index, .str a => (match y with | .str b => ∃ (i : Nat) (rest : List Nat), Builtin.Str.occurrences a b 0 a.length 1 = i :: rest ∧ F (.int i) h | _ => False)
  | _, _ => False

/-! ### instances -/
/-- what a body may call: a def, a method, a class; or a class's fields by name -/
inductive Cn where
  | fn (x : Str) | me (c m : Str) | mk (c : Str) | cl (c : Str) (fs : List Str) | er (c : Str) | xs (rs ts : List Str) | ei (c f : Str) | xf (c f : Str) | gd
  deriving DecidableEq
instance : Coe String Cn := ⟨fun s => .fn (Str.ofString s)⟩
def putZ (f : Str) (v : PV) : List (Str × PV) → List (Str × PV)
  | [] => [(f, v)]
  | (g, x) :: r => if g = f then (g, v) :: r else (g, x) :: putZ f v r
def fldW (h : Hep) (x : PV) (c f : Str) (F : PV → Prop) : Prop := match x with
  | .ref r => getO h r fun c' fs => c' = c ∧ ∃ v, fs.lookup f = some v ∧ F v
  | _ => False
def insW (h : Hep) (x : PV) (c m : Str) : Prop := match x with
  | .ref r => getO h r fun c' fs => c' = c ∧ fs.lookup m = none
  | _ => False
def stfW (x v : PV) (c f : Str) (h : Hep) (G : Hep → Prop) : Prop := match x with
  | .ref r => getO h r fun c' fs => c' = c ∧ fs.length < 1000 ∧ G (h.set r (.ins c (putZ f v fs)))
  | _ => False

/-! ### exceptions -/
/-- is an instance of the error class a one of c? The program's own error classes lie flat below PlanError, that one below ValueError. -/
def subX (a c : Str) : Bool := a == c || c == ("PlanError" : Str) || c == ("ValueError" : Str)
def isxW (x : PV) (c : Str) (K : Bool → Prop) : Prop := match x with
  | .exc a _ _ => K (subX a c)
  | _ => False
def fldxW (x : PV) (c f : Str) (F : PV → Prop) : Prop := match x with
  | .exc a ns vs => a = c ∧ ∃ v, (ns.zip vs).lookup f = some v ∧ F v
  | _ => False
def keptV (x : XV) : PV := .exc x.cls (x.fs.map (·.1)) (x.fs.map (·.2))

/-! ### the language -/
inductive Tg where
  | nm (i : Nat) | tp (ts : List Tg)
inductive Ex where
  | var (i : Nat) | non | bl (b : Bool) | int (i : Int) | str (s : Str)
  | con (x : Str) (v : PV)
  | bin (o : Operator) (a b : Ex) | neg (a : Ex) | not (a : Ex) | and (a b : Ex) | or (a b : Ex) | ife (c a b : Ex)
  | cmp (o : CmpOp) (a b : Ex) | chn (o o' : CmpOp) (a b c : Ex) | chn3 (o o' o'' : CmpOp) (a b c d : Ex)
  | tup (es : List Ex) | lst (es : List Ex) | dct
  | idx (a i : Ex) | slc (a : Ex) (lo hi : Option Ex)
  | call (f : Nat) (es : List Ex) | bi (b : BI) (es : List Ex) | mi (m : MI) (a : Ex) (es : List Ex)
  | isi (a : Ex) (t : IT)
  | mdf (mx : Bool) (a : Ex) | rev (a : Ex)
  | xtp (es : List Ex) | dg1 (a k : Ex) | dg2 (a k d : Ex) | sm (m : SM) (a b : Ex) | dcd (ks : List Str) (es : List Ex) | fldx (a : Ex) (c f : Str) | rep (a : Ex) | lck (i : Nat) (e : Ex) | lka (e : Ex)
  | fld (a : Ex) (c f : Str) | mth (i : Nat) (c m : Str) (a : Ex) (es : List Ex) | new (i : Nat) (c : Str) (es : List Ex)
  | comp (own : List Nat) (t : Tg) (it : Ex) (c : Option Ex) (e : Ex)
  -- what is only walked
  | wlk (a : Ex) | rng1 (a : Ex) | rng2 (a b : Ex) | rng3 (a b c : Ex) | enum (a : Ex) | zip (a b : Ex) | wld (i : Nat) | wlx (a : Ex)

/-! ### storing at targets -/
mutual
def tgt : Tg → PV → Env → Option Env
  | .nm i, v, σ => some (σ.set i (some v))
  | .tp ts, .tup xs, σ => tgts ts xs σ
  | .tp ts, .itp xs, σ => tgts ts xs σ
  | .tp _, _, _ => none
def tgts : List Tg → List PV → Env → Option Env
  | [], [], σ => some σ
  | t :: ts, x :: xs, σ => match tgt t x σ with | some σ' => tgts ts xs σ' | none => none
  | _, _, _ => none
end
def wipeZ (σ : Env) : List Nat → Env
  | [] => σ
  | v :: vs => (wipeZ σ vs).set v none

/-- what a walk leans on: lists that stand as they are -/
abbrev Grd := List (Nat × Ob)
def grdOk (h : Hep) : Grd → Prop
  | [] => True
  | (r, o) :: g => h[r]? = some o ∧ grdOk h g
def walkW (h : Hep) (x : PV) (F : List PV → Grd → Prop) : Prop := match x with
  | .tup xs => F xs []
  | .itp xs => F xs []
  | .ils xs => F xs []
  | .ref r => getL h r fun xs => F xs [(r, .lst xs)]
  | .str s => F (signsOf s) []
  | _ => False
def enumL : Nat → List PV → List PV
  | _, [] => []
  | i, x :: r => .tup [.int i, x] :: enumL (i + 1) r
def zipL : List PV → List PV → List PV
  | x :: xs, y :: ys => .tup [x, y] :: zipL xs ys
  | _, _ => []
def rngC (lo c : Int) (n : Nat) : List PV := (List.range n).map fun (i : Nat) => PV.int (lo + (i : Int) * c)
def rngL (lo : Int) (n : Nat) : List PV := (List.range n).map fun (i : Nat) => PV.int (lo + i)

/-- a comprehension's turns -/
def wComp (g : Grd) (t : Tg) (c : Env → Hep → KB → Prop) (e : Env → Hep → KQ → Prop) (σ : Env) : List PV → List PV → Hep → (List PV → Hep → Prop) → Prop
  | [], acc, h, F => grdOk h g ∧ F acc h
  | x :: r, acc, h, F => grdOk h g ∧ match tgt t x σ with
    | some σ' => c σ' h fun b h1 => if b = true then e σ' h1 fun y h2 => acc.length < big ∧ wComp g t c e σ r (acc ++ [y]) h2 F else wComp g t c e σ r acc h1 F
    | none => False

mutual
def wE (Γ : List Spec) : Ex → Env → Hep → KQ → KX → Prop
  | .var i, σ, h, F, _ => (match σ[i]? with | some (some v) => F v h | _ => False)
  | .non, _, h, F, _ => F .non h
  | .bl b, _, h, F, _ => F (.bl b) h
  | .int i, _, h, F, _ => F (.int i) h
  | .str s, _, h, F, _ => F (.str s) h
  | .con _ v, _, h, F, _ => F v h
  | .bin o a b, σ, h, F, E => wE Γ a σ h (fun x h1 => wE Γ b σ h1 (fun y h2 => binW o x y h2 F) E) E
  | .neg a, σ, h, F, E => wE Γ a σ h (fun x h1 => match x with | .int i => F (.int (-i)) h1 | _ => False) E
  | .not a, σ, h, F, E => wE Γ a σ h (fun x h1 => truW h1 x fun b => F (.bl (!b)) h1) E
  | .and a b, σ, h, F, E => wE Γ a σ h (fun x h1 => truW h1 x fun t => if t = true then wE Γ b σ h1 F E else F x h1) E
  | .or a b, σ, h, F, E => wE Γ a σ h (fun x h1 => truW h1 x fun t => if t = true then F x h1 else wE Γ b σ h1 F E) E
  | .ife c a b, σ, h, F, E => wE Γ c σ h (fun x h1 => truW h1 x fun t => if t = true then wE Γ a σ h1 F E else wE Γ b σ h1 F E) E
  | .cmp o a b, σ, h, F, E => wE Γ a σ h (fun x h1 => wE Γ b σ h1 (fun y h2 => cmpW o x y h2 fun t => F (.bl t) h2) E) E
  | .chn o o' a b c, σ, h, F, E => wE Γ a σ h (fun x h1 => wE Γ b σ h1 (fun y h2 => cmpW o x y h2 fun t => if t = true then wE Γ c σ h2 (fun z h3 => cmpW o' y z h3 fun u => F (.bl u) h3) E else F (.bl false) h2) E) E
  | .chn3 o o' o'' a b c d, σ, h, F, E => wE Γ a σ h (fun x h1 => wE Γ b σ h1 (fun y h2 => cmpW o x y h2 fun t => if t = true then wE Γ c σ h2 (fun z h3 => cmpW o' y z h3 fun u => if u = true then wE Γ d σ h3 (fun w h4 => cmpW o'' z w h4 fun u => F (.bl u) h4) E else F (.bl false) h3) E else F (.bl false) h2) E) E
  | .tup es, σ, h, F, E => wEs Γ es σ h (fun xs h1 => xs.length ≤ big ∧ F (.tup xs) h1) E
  | .lst es, σ, h, F, E => wEs Γ es σ h (fun xs h1 => xs.length ≤ big ∧ F (.ref h1.length) (h1 ++ [.lst xs])) E
  | .dct, _, h, F, _ => F (.ref h.length) (h ++ [.dic []])
  | .idx a i, σ, h, F, E => wE Γ a σ h (fun x h1 => wE Γ i σ h1 (fun y h2 => itemW x y h2 F) E) E
  | .slc a lo hi, σ, h, F, E => wE Γ a σ h (fun x h1 => wO Γ lo σ h1 (fun l h2 => wO Γ hi σ h2 (fun u h3 => sliceW x l u h3 F) E) E) E
  | .call f es, σ, h, F, E => wEs Γ es σ h (fun xs h1 => match Γ[f]? with | some S => S xs h1 F E | none => False) E
  | .bi b es, σ, h, F, E => wEs Γ es σ h (fun xs h1 => biW b xs h1 F) E
  | .mi m a es, σ, h, F, E => wE Γ a σ h (fun x h1 => isL h1 x ∧ wEs Γ es σ h1 (fun xs h2 => miW m x xs h2 F) E) E
  | .isi a t, σ, h, F, E => wE Γ a σ h (fun x h1 => isT t h1 x fun b => F (.bl b) h1) E
  | .mdf mx a, σ, h, F, E => wE Γ a σ h (fun x h1 => listW h1 x fun ys => ∃ ns, intsOf ys = some ns ∧ F (if ns = [] then .non else .int (if mx = true then maxL ns else minL ns)) h1) E
  | .rev a, σ, h, F, E => wE Γ a σ h (fun x h1 => revW x h1 F) E
  | .xtp es, σ, h, F, E => wEs Γ es σ h (fun xs h1 => xs.length ≤ big ∧ F (.itp xs) h1) E
  | .dg1 a k, σ, h, F, E => wE Γ a σ h (fun x h1 => isD h1 x ∧ wE Γ k σ h1 (fun y h2 => dgetW h2 x y fun o => F (o.getD .non) h2) E) E
  | .dg2 a k d, σ, h, F, E => wE Γ a σ h (fun x h1 => isD h1 x ∧ wE Γ k σ h1 (fun y h2 => wE Γ d σ h2 (fun z h3 => dgetW h3 x y fun o => F (o.getD z) h3) E) E) E
  | .sm m a b, σ, h, F, E => wE Γ a σ h (fun x h1 => isS x ∧ wE Γ b σ h1 (fun y h2 => smW m x y h2 F) E) E
  | .dcd ks es, σ, h, F, E => wEs Γ es σ h (fun xs h1 => F (.ref h1.length) (h1 ++ [.dic (dputs [] ((ks.map Sum.inr).zip xs))])) E
  | .rep a, σ, h, F, E => wE Γ a σ h (fun x h1 => ∃ d, dat h1 59 x = some d ∧ SeqAt.shaped d = true ∧ d.showable = true ∧ d.shown.length ≤ big ∧ F (.str d.shown) h1) E
  | .fldx a c f, σ, h, F, E => wE Γ a σ h (fun x h1 => fldxW x c f fun v => F v h1) E
  | .fld a c f, σ, h, F, E => wE Γ a σ h (fun x h1 => fldW h1 x c f fun v => F v h1) E
  | .mth i c m a es, σ, h, F, E => wE Γ a σ h (fun x h1 => insW h1 x c m ∧ wEs Γ es σ h1 (fun xs h2 => match Γ[i]? with | some S => S (x :: xs) h2 F E | none => False) E) E
  | .new i c es, σ, h, F, E => wEs Γ es σ h (fun xs h1 => match Γ[i]? with | some S => S (.ref h1.length :: xs) (h1 ++ [.ins c []]) (fun v h2 => v = .non ∧ F (.ref h1.length) h2) E | none => False) E
  | .comp own t it c e, σ, h, F, E => wI Γ it σ h (fun items g h1 => wComp g t (fun σ' h' G => wC Γ c σ' h' G) (fun σ' h' G => wE Γ e σ' h' G noX) (wipeZ σ own) items [] h1 fun acc h2 => F (.ref h2.length) (h2 ++ [.lst acc])) E
  | .lck i e, σ, h, F, _ => (match σ[i]? with
    | some (some (.ref r)) => getD h r fun kvs => ∀ u : L2.HO, wE Γ e σ (h.set r (.ldc u kvs)) (fun x h1 => h1[r]? = some (.ldc u kvs) ∧ F x (h1.set r (.dic kvs))) noX
    | _ => False)
  | .lka e, σ, h, F, _ => ∃ (r : Nat) (kvs : List (Ky × PV)), h[r]? = some (.dic kvs) ∧ ∀ u : L2.HO, wE Γ e σ (h.set r (.ldc u kvs)) (fun x h1 => h1[r]? = some (.ldc u kvs) ∧ F x (h1.set r (.dic kvs))) noX
  | .wld _, _, _, _, _ => False
  | .wlx _, _, _, _, _ => False
  | .wlk _, _, _, _, _ => False
  | .rng1 _, _, _, _, _ => False
  | .rng2 _ _, _, _, _, _ => False
  | .rng3 _ _ _, _, _, _, _ => False
  | .enum _, _, _, _, _ => False
  | .zip _ _, _, _, _, _ => False
termination_by structural e => e
def wEs (Γ : List Spec) : List Ex → Env → Hep → (List PV → Hep → Prop) → KX → Prop
  | [], _, h, F, _ => F [] h
  | e :: es, σ, h, F, E => wE Γ e σ h (fun x h1 => wEs Γ es σ h1 (fun xs h2 => F (x :: xs) h2) E) E
termination_by structural e => e
def wO (Γ : List Spec) : Option Ex → Env → Hep → (Option Int → Hep → Prop) → KX → Prop
  | none, _, h, F, _ => F none h
  | some e, σ, h, F, E => wE Γ e σ h (fun x h1 => match x with | .int i => F (some i) h1 | _ => False) E
termination_by structural e => e
/-- a comprehension's condition -/
def wC (Γ : List Spec) : Option Ex → Env → Hep → KB → Prop
  | none, _, h, F => F true h
  | some e, σ, h, F => wE Γ e σ h (fun x h1 => truW h1 x fun b => F b h1) noX
termination_by structural e => e
/-- what is walked -/
def wI (Γ : List Spec) : Ex → Env → Hep → (List PV → Grd → Hep → Prop) → KX → Prop
  | .rng1 a, σ, h, F, E => wE Γ a σ h (fun x h1 => match x with | .int j => -(2 ^ 62) ≤ j ∧ j < 2 ^ 62 ∧ F (rngL 0 j.toNat) [] h1 | _ => False) E
  | .rng2 a b, σ, h, F, E => wE Γ a σ h (fun x h1 => wE Γ b σ h1 (fun y h2 => match x, y with
    | .int i, .int j => -(2 ^ 62) ≤ i ∧ i < 2 ^ 62 ∧ -(2 ^ 62) ≤ j ∧ j < 2 ^ 62 ∧ F (rngL i (j - i).toNat) [] h2
    | _, _ => False) E) E
  | .rng3 a b c, σ, h, F, E => wE Γ a σ h (fun x h1 => wE Γ b σ h1 (fun y h2 => wE Γ c σ h2 (fun z h3 => match x, y, z with
    | .int i, .int j, .int k => ∃ n, L2.RgC i j k n ∧ F (rngC i k n) [] h3
    | _, _, _ => False) E) E) E
  | .enum a, σ, h, F, E => wE Γ a σ h (fun x h1 => seqW h1 x fun xs => walkW h1 x fun _ g => F (enumL 0 xs) g h1) E
  | .zip a b, σ, h, F, E => wE Γ a σ h (fun x h1 => wE Γ b σ h1 (fun y h2 => seqW h2 x fun xs => seqW h2 y fun ys => walkW h2 x fun _ g => walkW h2 y fun _ g' => F (zipL xs ys) (g ++ g') h2) E) E
  | .wlk a, σ, h, F, E => wE Γ a σ h (fun x h1 => walkW h1 x fun xs g => F xs g h1) E
  | .wld i, σ, h, F, _ => (match σ[i]? with
    | some (some (.ref r)) => (match h[r]? with | some (.ldc u kvs) => F (kvs.map fun p => keyV p.1) [(r, .ldc u kvs)] h | _ => False)
    | _ => False)
  | .wlx a, σ, h, F, E => wE Γ a σ h (fun x h1 => match x with
    | .ref r => (match h1[r]? with | some (.ldc u kvs) => F (kvs.map fun p => keyV p.1) [(r, .ldc u kvs)] h1 | _ => False)
    | _ => False) E
  | _, _, _, _, _ => False
termination_by structural e => e
end
/-- a test -/
def wT (Γ : List Spec) (e : Ex) (σ : Env) (h : Hep) (F : KB) (E : KX) : Prop := wE Γ e σ h (fun x h1 => truW h1 x fun b => F b h1) E

/-! ### statements -/
inductive Sm where
  | set (t : Tg) (e : Ex) | par (i j : Nat) (a b : Ex) | par3 (i j l : Nat) (a b c : Ex) | sto (o i e : Ex)
  | aug (i : Nat) (o : Operator) (e : Ex) | stf (o : Ex) (c f : Str) (e : Ex)
  | exp (e : Ex) | ret (e : Ex) | retN
  | ife (c : Ex) (a b : List Sm) | whl (c : Ex) (b : List Sm) | for_ (t : Tg) (it : Ex) (b : List Sm)
  | rai (c : Str) | raf (c f : Str) (e : Ex) | tryk (b : List Sm) (cs : List Str) (c : Str) (i j : Nat)
  | lcs (i : Nat) (s : Sm)
  | brk | cnt | pss | doc | nev

structure Dz where
  nx : Env → Hep → Prop
  rt : KQ
  bk : Env → Hep → Prop := fun _ _ => False
  ct : Env → Hep → Prop := fun _ _ => False
  ex : XV → Env → Hep → Prop := fun _ _ _ => False

/-- a loop's turns -/
def wFor (g : Grd) (t : Tg) (b : Env → Hep → Dz → Prop) : List PV → Env → Hep → Dz → Prop
  | [], σ, h, D => grdOk h g ∧ D.nx σ h
  | x :: r, σ, h, D => grdOk h g ∧ match tgt t x σ with
    | some σ' => b σ' h { D with nx := fun σ2 h2 => wFor g t b r σ2 h2 D, ct := fun σ2 h2 => wFor g t b r σ2 h2 D, bk := D.nx }
    | none => False

mutual
def wS (Γ : List Spec) : Sm → Env → Hep → Dz → Prop
  | .set t e, σ, h, D => wE Γ e σ h (fun x h1 => match tgt t x σ with | some σ' => D.nx σ' h1 | none => False) fun x h1 => D.ex x σ h1
  | .par i j a b, σ, h, D => wE Γ a σ h (fun x h1 => wE Γ b σ h1 (fun y h2 => D.nx ((σ.set i (some x)).set j (some y)) h2) fun x h1 => D.ex x σ h1) fun x h1 => D.ex x σ h1
  | .par3 i j l a b c, σ, h, D => wE Γ a σ h (fun x h1 => wE Γ b σ h1 (fun y h2 => wE Γ c σ h2 (fun z h3 => D.nx (((σ.set i (some x)).set j (some y)).set l (some z)) h3) fun x h1 => D.ex x σ h1) fun x h1 => D.ex x σ h1) fun x h1 => D.ex x σ h1
  | .sto o i e, σ, h, D => wE Γ e σ h (fun v h1 => wE Γ o σ h1 (fun x h2 => wE Γ i σ h2 (fun y h3 => storeW x y v h3 fun h4 => D.nx σ h4) fun x h1 => D.ex x σ h1) fun x h1 => D.ex x σ h1) fun x h1 => D.ex x σ h1
  | .stf o c f e, σ, h, D => wE Γ e σ h (fun v h1 => wE Γ o σ h1 (fun x h2 => stfW x v c f h2 fun h3 => D.nx σ h3) fun x h1 => D.ex x σ h1) fun x h1 => D.ex x σ h1
  | .aug i o e, σ, h, D => (match σ[i]? with
    | some (some x) => wE Γ e σ h (fun y h1 => match x, y with
      | .int a, .int b => (o = .Add ∧ D.nx (σ.set i (some (.int (a + b)))) h1) ∨ (o = .Sub ∧ D.nx (σ.set i (some (.int (a - b)))) h1)
      | _, _ => False) fun x h1 => D.ex x σ h1
    | _ => False)
  | .exp e, σ, h, D => wE Γ e σ h (fun _ h1 => D.nx σ h1) fun x h1 => D.ex x σ h1
  | .ret e, σ, h, D => wE Γ e σ h D.rt fun x h1 => D.ex x σ h1
  | .retN, _, h, D => D.rt .non h
  | .ife c a b, σ, h, D => wE Γ c σ h (fun x h1 => truW h1 x fun t => if t = true then wSs Γ a σ h1 D else wSs Γ b σ h1 D) fun x h1 => D.ex x σ h1
  | .whl c b, σ, h, D => ∃ W : Nat → Env → Hep → Prop, (∃ m, W m σ h) ∧ ∀ m σ h, W m σ h →
      wE Γ c σ h (fun x h1 => truW h1 x fun t => if t = true then wSs Γ b σ h1 { D with nx := fun σ2 h2 => ∃ m', m' < m ∧ W m' σ2 h2, ct := fun σ2 h2 => ∃ m', m' < m ∧ W m' σ2 h2, bk := D.nx } else D.nx σ h1) fun x h1 => D.ex x σ h1
  | .for_ t it b, σ, h, D => wI Γ it σ h (fun items g h1 => wFor g t (fun σ' h' D' => wSs Γ b σ' h' D') items σ h1 D) fun x h1 => D.ex x σ h1
  | .rai c, σ, h, D => D.ex ⟨c, []⟩ σ h
  | .raf c f e, σ, h, D => wE Γ e σ h (fun v h1 => D.ex ⟨c, [(f, v)]⟩ σ h1) fun x h1 => D.ex x σ h1
  | .tryk b cs c i j, σ, h, D => wSs Γ b σ h { D with ex := fun x σ' h' => x.cls ∈ cs ∧ if subX x.cls c = true then D.nx ((σ'.set j (some (keptV x))).set i none) h' else D.ex x σ' h' }
  | .lcs i s, σ, h, D => (match σ[i]? with
    | some (some (.ref r)) => getD h r fun kvs => ∀ u : L2.HO, wS Γ s σ (h.set r (.ldc u kvs)) { nx := fun σ' h' => h'[r]? = some (.ldc u kvs) ∧ D.nx σ' (h'.set r (.dic kvs)), rt := fun x h' => h'[r]? = some (.ldc u kvs) ∧ D.rt x (h'.set r (.dic kvs)), bk := fun σ' h' => h'[r]? = some (.ldc u kvs) ∧ D.bk σ' (h'.set r (.dic kvs)), ct := fun σ' h' => h'[r]? = some (.ldc u kvs) ∧ D.ct σ' (h'.set r (.dic kvs)) }
    | _ => False)
  | .brk, σ, h, D => D.bk σ h
  | .cnt, σ, h, D => D.ct σ h
  | .pss, σ, h, D => D.nx σ h
  | .doc, σ, h, D => D.nx σ h
  | .nev, _, _, _ => False
termination_by structural s => s
def wSs (Γ : List Spec) : List Sm → Env → Hep → Dz → Prop
  | [], σ, h, D => D.nx σ h
  | s :: r, σ, h, D => wS Γ s σ h { D with nx := fun σ' h' => wSs Γ r σ' h' D }
termination_by structural s => s
end
end Z

/-! Zh: rules of the hand layer's kind that it lacks: chains of three, sorted over data, sorted(set(..)) of whole numbers, min and max with default=. -/
namespace Zh
open PySem PySem.Spec PyProof.Rows L2

section
variable {X : Cx} {a b c d : Expr} {ta tb tc td : TE} {pos : Pos}
/-! ### chains of three -/
def tChain3 (r r' r'' : R2) (ta tb tc td : TE) : TE := fun σ H Q => ta σ H fun x H1 => tb σ H1 fun y H2 => r x y H2 fun z H3 => ∃ k, z = .bl k ∧ (if k = true then tc σ H3 fun w' H4 => r' y w' H4 fun z H5 => ∃ k, z = .bl k ∧ (if k = true then td σ H5 fun v' H6 => r'' w' v' H6 Q else Q (.bl false) H5) else Q (.bl false) H3)
theorem pe_chain3 {op op' op'' : CmpOp} {r r' r'' : R2} (ho : OpR X (compareOp op) r) (ho' : OpR X (compareOp op') r') (ho'' : OpR X (compareOp op'') r'') (ha : PE X a ta) (hb : PE X b tb) (hc : PE X c tc) (hd : PE X d td)
    (hm : lastMarks [op, op', op''] [b, c, d] = false) : PE X (.Compare a [op, op', op''] [b, c, d] pos) (tChain3 r r' r'' ta tb tc td) := by
  refine ⟨fun pins s σ H Q I h => ?_⟩
  refine Compare_chain (thn (ha.run pins s σ H _ I h) fun v s1 ⟨x, H1, I1, r1, q1⟩ => chain_link (thn (hb.run pins s1 σ H1 _ I1 q1) fun u s2 ⟨y, H2, I2, r2, q2⟩ =>
    thn (ho pins s2 σ H2 x y v u _ I2 r1 r2 q2) fun dd s3 ⟨z, H3, I3, r3, k, e, q3⟩ => ?_)) hm
  subst e
  cases r3
  refine wpAny_truthy_bool ?_
  cases k with
  | false => exact ite_ff ⟨.bl false, H3, I3, rfl, q3⟩
  | true =>
    refine ite_tt (chain_link (thn (hc.run pins s3 σ H3 _ I3 q3) fun w' s4 ⟨z', H4, I4, r4, q4⟩ => thn (ho' pins s4 σ H4 y z' u w' _ I4 r2 r4 q4) fun d2 s5 ⟨z2, H5, I5, r5, k2, e2, q5⟩ => ?_))
    subst e2
    cases r5
    refine wpAny_truthy_bool ?_
    cases k2 with
    | false => exact ite_ff ⟨.bl false, H5, I5, rfl, q5⟩
    | true => exact ite_tt (chain_last (thn (hd.run pins s5 σ H5 _ I5 q5) fun w2 s6 ⟨z3, H6, I6, r6, q6⟩ => ho'' pins s6 σ H6 z' z3 w' w2 Q I6 r4 r6 q6))
theorem pt_chain3 {op op' op'' : CmpOp} {r r' r'' : R2} (ho : OpR X (compareOp op) r) (ho' : OpR X (compareOp op') r') (ho'' : OpR X (compareOp op'') r'') (ha : PE X a ta) (hb : PE X b tb) (hc : PE X c tc) (hd : PE X d td)
    (hm : lastMarks [op, op', op''] [b, c, d] = false) : PT X (.Compare a [op, op', op''] [b, c, d] pos) (tTest (tChain3 r r' r'' ta tb tc td)) := by
  refine ⟨fun pins s σ H Q I h => ?_⟩
  refine isTrue_chain (thn (ha.run pins s σ H _ I h) fun v s1 ⟨x, H1, I1, r1, q1⟩ => test_link (thn (hb.run pins s1 σ H1 _ I1 q1) fun u s2 ⟨y, H2, I2, r2, q2⟩ =>
    thn (ho pins s2 σ H2 x y v u _ I2 r1 r2 q2) fun dd s3 ⟨z, H3, I3, r3, k, e, q3⟩ => ?_)) hm
  subst e
  cases r3
  refine wpAny_truthy_bool ?_
  cases k with
  | false =>
    obtain ⟨k', e', q'⟩ := q3
    cases e'
    exact ite_ff ⟨H3, I3, q'⟩
  | true =>
    refine ite_tt (test_link (thn (hc.run pins s3 σ H3 _ I3 q3) fun w' s4 ⟨z', H4, I4, r4, q4⟩ => thn (ho' pins s4 σ H4 y z' u w' _ I4 r2 r4 q4) fun d2 s5 ⟨z2, H5, I5, r5, k2, e2, q5⟩ => ?_))
    subst e2
    cases r5
    refine wpAny_truthy_bool ?_
    cases k2 with
    | false =>
      obtain ⟨k', e', q'⟩ := q5
      cases e'
      exact ite_ff ⟨H5, I5, q'⟩
    | true =>
      refine ite_tt (test_last (thn (hd.run pins s5 σ H5 _ I5 q5) fun w2 s6 ⟨z3, H6, I6, r6, q6⟩ => thn (ho'' pins s6 σ H6 z' z3 w' w2 _ I6 r4 r6 q6) fun d3 s7 ⟨z4, H7, I7, r7, k3, e3, q7⟩ => ?_))
      subst e3
      cases r7
      exact wpAny_truthy_bool ⟨H7, I7, q7⟩

/-! ### sorted over data -/
open PySem.W (EachIs AllAlike Sortable dataLe)
theorem each_zip {α β : Type} {Rl : α → β → Prop} : ∀ {as : List α} {bs : List β}, EachIs Rl as bs → ∀ (i : Nat) (a : α), as[i]? = some a → ∃ b, bs[i]? = some b ∧ Rl a b
  | _, _, .nil, i, a, h => by simp at h
  | _, _, .cons r t, 0, a, h => by simp at h; subst h; exact ⟨_, rfl, r⟩
  | _, _, .cons r t, i + 1, a, h => each_zip t i a (by simpa using h)
theorem each_vals : ∀ {vs : List V} {us : List Value} {ds : List PyData}, Vals vs us → vs.length = ds.length → EachIs (fun u (p : V × PyData) => RelV p.1 u) us (vs.zip ds)
  | _, _, [], .nil, _ => .nil
  | _, _, d :: ds, .cons r t, h => .cons r (each_vals t (by simpa using h))
theorem vals_each : ∀ {us : List Value} {ps : List (V × PyData)}, EachIs (fun u (p : V × PyData) => RelV p.1 u) us ps → Vals (ps.map (·.1)) us
  | _, _, .nil => .nil
  | _, _, .cons r t => .cons r (vals_each t)
theorem each_reads {X : Cx} {pins : List (Addr × Obj)} {σ : L2.St} {H : Hp} {s : Shared} (I : Inv X pins σ H s) : ∀ {vs : List V} {us : List Value} {ds : List PyData}, Vals vs us → DpAll X.K H vs ds → EachIs (fun u (p : V × PyData) => ∃ as, Reads s.heap u p.2 as) us (vs.zip ds)
  | _, _, _, .nil, .nil => .nil
  | _, _, _, .cons r t, .cons d ds => .cons (Dp.reads I _ _ _ d r) (each_reads I t ds)
theorem dpAll_len {K : PySem.W.Frag} {H : Hp} : ∀ {vs : List V} {ds : List PyData}, DpAll K H vs ds → vs.length = ds.length
  | _, _, .nil => rfl
  | _, _, .cons _ t => by rw [List.length_cons, List.length_cons, dpAll_len t]
theorem zip_snd {α β : Type} : ∀ {as : List α} {bs : List β}, as.length = bs.length → (as.zip bs).map (·.2) = bs
  | [], [], _ => rfl
  | a :: as, b :: bs, h => by rw [List.zip_cons_cons, List.map_cons, zip_snd (by simpa using h)]
def sortV (ps : List (V × PyData)) : List V := (ps.mergeSort (dataLe false fun p => p.2)).map (·.1)
def rSortedD (K : PySem.W.Frag) : List V → Hp → VK → Prop := fun vs H Q => ∃ (a : Addr) (xs : List V) (ds : List PyData), vs = [V.ref a] ∧ SqL K H a xs ∧ DpAll K H xs ds ∧ AllAlike ds ∧ Sortable ds ∧ (∀ d ∈ ds, d.depth ≤ 60) ∧
  ∀ p, H p = none → Q (.ref p) (upd H p (.lst (sortV (xs.zip ds))))
theorem cr_sortedD {X : Cx} (hu : X.A.units + 65 < cLine) : CallR X (.builtin "sorted") (rSortedD X.K) := by
  intro pins s σ H vs us Q I r h
  obtain ⟨a, xs, ds, rfl, hs, hd, al, so, dp, q⟩ := h
  obtain ⟨its, rv, hl, hz⟩ := I.list hs
  rw [Vals.ref1 r]
  have hxd := dpAll_len hd
  have hlen : (sortV (xs.zip ds)).length = xs.length := by
    unfold sortV
    rw [List.length_map, List.length_mergeSort, List.length_zip, ← hxd, Nat.min_self]
  refine PySem.W.sorted_data (vs := its) (β := V × PyData) (R := fun u p => RelV p.1 u) (enc := fun p => p.2) (bs := xs.zip ds) hl.isList (each_vals rv hxd) (each_reads I rv hd) (by rw [zip_snd hxd]; exact al) (by rw [zip_snd hxd]; exact so) (by rw [List.length_zip, ← hxd, Nat.min_self]; exact hz)
    (fun b hb => ?_) fun out ho eo => ?_
  · have := dp b.2 (List.of_mem_zip (show (b.1, b.2) ∈ xs.zip ds from hb)).2
    omega
  · obtain ⟨ep, he'⟩ := PyProof.Rows.sortedAll_at s.heap its out.toArray
    exact ⟨.ref _, upd H (s.heap.objs.size + 1) (.lst (sortV (xs.zip ds))), I.laid (t' := s.toks) (fun _ _ => PyProof.Rows.sortedAll_old) (Nat.le_succ _) ⟨by rw [hlen]; exact hz, out, ep, vals_each eo, he'⟩, rfl, q _ (I.hok.fresh (Nat.le_succ _))⟩

/-! ### min, max with default= -/
open PySem.W (AlikeAll minD maxD alike_unique)
theorem minD_mem : ∀ (ys : List PyData) (y : PyData), minD y ys ∈ y :: ys
  | [], y => List.mem_cons_self
  | z :: ys, y => by
    show minD (if PySem.W.dataLt z y = true then z else y) ys ∈ _
    have h := minD_mem ys (if PySem.W.dataLt z y = true then z else y)
    rcases List.mem_cons.mp h with h | h
    · rw [h]
      split
      · exact List.mem_cons_of_mem _ List.mem_cons_self
      · exact List.mem_cons_self
    · exact List.mem_cons_of_mem _ (List.mem_cons_of_mem _ h)
theorem maxD_mem : ∀ (ys : List PyData) (y : PyData), maxD y ys ∈ y :: ys
  | [], y => List.mem_cons_self
  | z :: ys, y => by
    show maxD (if PySem.W.dataLt y z = true then z else y) ys ∈ _
    have h := maxD_mem ys (if PySem.W.dataLt y z = true then z else y)
    rcases List.mem_cons.mp h with h | h
    · rw [h]
      split
      · exact List.mem_cons_of_mem _ List.mem_cons_self
      · exact List.mem_cons_self
    · exact List.mem_cons_of_mem _ (List.mem_cons_of_mem _ h)
def best (mx : Bool) (y : PyData) (ys : List PyData) : PyData := if mx = true then maxD y ys else minD y ys
def mmName (mx : Bool) : String := if mx = true then "max" else "min"
theorem best_mem (mx : Bool) (y : PyData) (ys : List PyData) : best mx y ys ∈ y :: ys := by
  unfold best
  split
  · exact maxD_mem ys y
  · exact minD_mem ys y
/-- which item it is -/
theorem item_of {X : Cx} {pins : List (Addr × Obj)} {σ : L2.St} {H : Hp} {s : Shared} (I : Inv X pins σ H s) {xs : List V} {us : List Value} {ds : List PyData} (rv : Vals xs us) (hd : DpAll X.K H xs ds) {i : Nat} {u : Value} (hu : us[i]? = some u) {h' : Heap} (hk : ∀ b o, s.heap.get? b = some o → h'.get? b = some o) {d : PyData} {bs : List Addr} (rd : Reads h' u d bs) (al : ∀ x ∈ ds, PySem.W.alike x d = true) :
    ∃ v, xs[i]? = some v ∧ RelV v u ∧ ds[i]? = some d := by
  obtain ⟨v, hv, rr⟩ : ∃ v, xs[i]? = some v ∧ RelV v u := by
    have : ∀ {xs : List V} {us : List Value} {i : Nat}, Vals xs us → us[i]? = some u → ∃ v, xs[i]? = some v ∧ RelV v u := fun {xs us i} r => by
      induction r generalizing i with
      | nil => intro h; simp at h
      | cons r t ih =>
        intro h
        cases i with
        | zero => simp at h; subst h; exact ⟨_, rfl, r⟩
        | succ i => exact ih (by simpa using h)
    exact this rv hu
  have : ∀ {xs : List V} {ds : List PyData} {i : Nat} {v : V}, DpAll X.K H xs ds → xs[i]? = some v → ∃ e, ds[i]? = some e ∧ Dp X.K H v e := fun {xs} {ds} {i} {v} q => by
    intro h
    clear hd rd al
    induction xs generalizing i ds with
    | nil => simp at h
    | cons x xs ih =>
      cases q with
      | cons q1 q2 =>
        cases i with
        | zero => simp at h; subst h; exact ⟨_, rfl, q1⟩
        | succ i => exact ih (i := i) q2 (by simpa using h)
  obtain ⟨e, he, de⟩ := this hd hv
  obtain ⟨as, re⟩ := Dp.reads I _ _ _ de rr
  have := alike_unique e d u as bs (al e (List.mem_of_getElem? he)) (PyProof.Rows.Reads.keeps hk re) rd
  subst this
  exact ⟨v, hv, rr, he⟩
def rBest (mx : Bool) (K : PySem.W.Frag) : List V → List V → Hp → VK → Prop := fun vs zs H Q => ∃ (a : Addr) (xs : List V) (ds : List PyData) (z : V), vs = [V.ref a] ∧ zs = [z] ∧ SqL K H a xs ∧ DpAll K H xs ds ∧ AlikeAll ds ∧ PyData.depthAll ds ≤ 60 ∧ (ds = [] → Q z H) ∧
  ∀ (y : PyData) (ys : List PyData) (i : Nat) (v : V), ds = y :: ys → xs[i]? = some v → ds[i]? = some (best mx y ys) → Q v H
theorem cr_best {X : Cx} (mx : Bool) (hc : X.calm = true) (hu : X.A.units + 65 < cLine) : CallRK X (.builtin (mmName mx)) [Str.ofString "default"] (rBest mx X.K) := by
  intro pins s σ H vs zs us ws Q I r rz h
  obtain ⟨a, xs, ds, z, rfl, rfl, hs, hd, al, dp, h0, q⟩ := h
  obtain ⟨its, rv, hl, hz⟩ := I.list hs
  rw [Vals.ref1 r]
  obtain ⟨uz, rfl, rz'⟩ : ∃ u, ws = [u] ∧ RelV z u := by
    cases rz with
    | cons r t => cases t; exact ⟨_, rfl, r⟩
  obtain ⟨as, rd0⟩ := Dp.readsAll I _ _ _ hd rv
  cases mx with
  | false =>
    refine PySem.W.min_list_default (I.ok.hd hc) hl.isList (by simpa using rd0) al (by omega) (fun e h' tk hk => ⟨z, H, I.kept hk, rz', h0 e⟩) fun y ys i u h' tk bs e hi rd hk => ?_
    subst e
    obtain ⟨v, hv, rr, hdi⟩ := item_of I rv hd (by simpa using hi) hk rd fun x hx => al.1 x hx _ (minD_mem ys y)
    exact ⟨v, H, I.kept hk, rr, q y ys i v rfl hv hdi⟩
  | true =>
    refine PySem.W.max_list_default (I.ok.hd hc) hl.isList (by simpa using rd0) al (by omega) (fun e h' tk hk => ⟨z, H, I.kept hk, rz', h0 e⟩) fun y ys i u h' tk bs e hi rd hk => ?_
    subst e
    obtain ⟨v, hv, rr, hdi⟩ := item_of I rv hd (by simpa using hi) hk rd fun x hx => al.1 x hx _ (maxD_mem ys y)
    exact ⟨v, H, I.kept hk, rr, q y ys i v rfl hv hdi⟩
def rBest0 (mx : Bool) (K : PySem.W.Frag) : List V → Hp → VK → Prop := fun vs H Q => ∃ (a : Addr) (xs : List V) (y : PyData) (ys : List PyData), vs = [V.ref a] ∧ SqL K H a xs ∧ DpAll K H xs (y :: ys) ∧ AlikeAll (y :: ys) ∧ PyData.depthAll (y :: ys) ≤ 60 ∧
  ∀ (i : Nat) (v : V), xs[i]? = some v → (y :: ys)[i]? = some (best mx y ys) → Q v H
theorem cr_best0 {X : Cx} (mx : Bool) (hc : X.calm = true) (hu : X.A.units + 65 < cLine) : CallR X (.builtin (mmName mx)) (rBest0 mx X.K) := by
  intro pins s σ H vs us Q I r h
  obtain ⟨a, xs, y, ys, rfl, hs, hd, al, dp, q⟩ := h
  obtain ⟨its, rv, hl, hz⟩ := I.list hs
  rw [Vals.ref1 r]
  obtain ⟨as, rd0⟩ := Dp.readsAll I _ _ _ hd rv
  cases mx with
  | false =>
    refine PySem.W.min_list_data (I.ok.hd hc) hl.isList (by simpa using rd0) al (by omega) fun i u h' tk bs hi rd hk => ?_
    obtain ⟨v, hv, rr, hdi⟩ := item_of I rv hd (by simpa using hi) hk rd fun x hx => al.1 x hx _ (minD_mem ys y)
    exact ⟨v, H, I.kept hk, rr, q i v hv hdi⟩
  | true =>
    refine PySem.W.max_list_data (I.ok.hd hc) hl.isList (by simpa using rd0) al (by omega) fun i u h' tk bs hi rd hk => ?_
    obtain ⟨v, hv, rr, hdi⟩ := item_of I rv hd (by simpa using hi) hk rd fun x hx => al.1 x hx _ (maxD_mem ys y)
    exact ⟨v, H, I.kept hk, rr, q i v hv hdi⟩
end
/-! ### sorted(set(..)) of whole numbers -/
section
variable {P : Program} {w : World} {A : Around} {E : Value → Shared → Prop} {s : Shared}
def inS (ks : List Int) : Int → Bool := fun k => ks.any (· == k)
theorem inS_step (ks : List Int) (k : Int) : ∀ j, inS (step_dedup ks k) j = (inS ks j || decide (j = k)) := fun j => by
  unfold inS step_dedup
  by_cases h : ks.any (· == k) = true
  · rw [if_pos h]
    by_cases e : j = k
    · subst e; rw [h]; rfl
    · simp [e]
  · rw [if_neg h, List.any_append]
    congr 1
    simp only [List.any_cons, List.any_nil, Bool.or_false]
    by_cases e : j = k
    · subst e; simp
    · simp [e, Ne.symm e]
theorem len_step (ks : List Int) (k : Int) : (step_dedup ks k).length = if inS ks k = true then ks.length else ks.length + 1 := by
  unfold inS step_dedup
  by_cases h : ks.any (· == k) = true
  · rw [if_pos h, if_pos h]
  · rw [if_neg h, if_neg h, List.length_append]; rfl
theorem SetR.to {h : Heap} {a : Addr} {S S' : Int → Bool} {n n' : Nat} (R : SetR w h a S n) (e : ∀ k, S' k = S k) (e2 : n' = n) : SetR w h a S' n' := by
  subst e2; exact R.congr e
theorem set_update_ints {I : Addr} {fp wr : List Addr} {G : Array GenState → Array GenState → Prop} {n : Nat} {Pv : Nat → Value → Prop} {St : Nat → Shared → Prop} {R : Result → Shared → Prop}
    (W : WalksS P w A.in1 I fp wr G n Pv St) (S : Addr) (hSf : S ∉ fp) (val : Nat → Int) (hval : ∀ i v, Pv i v → ∃ t, v = .int (val i) t) (hb : n + 1 < scanBound) :
    ∀ (k i : Nat) (s : Shared), n - i = k → i ≤ n → St i s → SetR w s.heap S (inS (firstMet val i)) (firstMet val i).length →
      (∀ s', Moved (S :: wr) G s s' → SetR w s'.heap S (inS (firstMet val n)) (firstMet val n).length → R (.ok (.ret .none)) s') →
      codeAny (model P w) A (.builtin "set.update.loop" ⟨[.ref S, .ref I], []⟩) R s := by
  have hSw : S ∉ wr := fun h => hSf (W.sub _ h)
  have hsub : ∀ b ∈ wr, b ∈ S :: wr := fun b hb => List.mem_cons_of_mem _ hb
  intro k
  induction k with
  | zero =>
    intro i s hk hi hst hS hR
    have hin : i = n := by omega
    subst hin
    refine codeAny_builtin F.entry_set_update_loop ?_
    rw [Around.under_plainId F.plain_set_update_loop _]
    show wpAny _ A.in1 (pyNext (.ref I) >>= _) _ _ s
    refine wpAny_bind (W.done s _ _ hst fun s' hm => ?_)
    show wpAny _ A.in1 (ret Value.none) _ _ s'
    exact wpAny_pure (hR s' (hm.mono hsub) (hS.at fun o e => hm.heap S o hSw e))
  | succ k ih =>
    intro i s hk hi hst hS hR
    have hlt : i < n := by omega
    refine codeAny_builtin F.entry_set_update_loop ?_
    rw [Around.under_plainId F.plain_set_update_loop _]
    show wpAny _ A.in1 (pyNext (.ref I) >>= _) _ _ s
    refine wpAny_bind (W.item i s _ _ hlt hst fun v s' hP hst' hm => ?_)
    obtain ⟨t, rfl⟩ := hval i v hP
    have hS' : SetR w s'.heap S (inS (firstMet val i)) (firstMet val i).length := hS.at fun o e => hm.heap S o hSw e
    show wpAny _ A.in1 (holding [Value.int (val i) t] (setAdd S (.int (val i) t)) >>= _) _ _ s'
    refine wpAny_bind (wpAny_holding ?_)
    unfold setAdd
    refine wpAny_holding ?_
    refine wpAny_bind ((intKind P w).pyHash (k := val i) (intKind_is _ _ _ _) ?_)
    have hroom : (firstMet val i).length + 1 < scanBound := by have := firstMet_length_le val i; omega
    refine setR_add_hashed (s := { s' with toks := s'.toks + 1 }) hS' hroom fun h' hsb hS2 => ?_
    have hSi : SetR w h' S (inS (firstMet val (i + 1))) (firstMet val (i + 1)).length :=
      SetR.to hS2 (fun k' => by rw [firstMet_succ, inS_step]) (by rw [firstMet_succ, len_step])
    refine wpAny_pure ⟨plainId_quiet F.plain_set_update_loop _, ih (i + 1) _ (by omega) hlt (W.frame _ s' _ _ hst' (Nat.le_succ _) fun b hb o e => ?_) hSi fun s'' hm'' hS'' => ?_⟩
    · rw [hsb.2 b (fun h : b = S => hSf (by rw [← h]; exact hb))]; exact e
    · refine hR s'' (Moved.trans W.gtrans ((hm.mono hsub).then_heap (Nat.le_succ _) fun b o hb e => ?_) hm'') hS''
      rw [hsb.2 b (fun h : b = S => hb (by rw [h]; exact List.mem_cons_self))]; exact e
set_option maxRecDepth 100000 in
set_option maxHeartbeats 3200000 in
/-- set(xs) -/
theorem call_set_ints {l : Addr} {items : Array Value} {ns : List Int} {Q : Value → Shared → Prop} (hh : A.handled = none) (hl : s.heap.IsList l items) (hi : IntsAre items.toList ns) (hb : items.size + 1 < scanBound)
    (h : ∀ (h' : Heap) (tk : Nat), SetR w h' s.heap.objs.size (inS (firstMet (fun i => ns.getD i 0) items.size)) (firstMet (fun i => ns.getD i 0) items.size).length → (∀ b o, s.heap.get? b = some o → h'.get? b = some o) → Q (.ref s.heap.objs.size) { s with heap := h', toks := tk }) :
    wpAny (model P w) A (call (.type "set") [.ref l]) Q E s := by
  obtain ⟨c, tl, hmro⟩ := F.called_set.mro
  have hmade := F.called_set.made
  have hsub := F.called_set.sub
  refine wpAny_call (codeAny_of_tree ?_)
  show wpAny _ _ (callAny (.type "set") _) _ _ _
  refine wpAny_pure ⟨Code.quiet_builtin _ (by decide +kernel), codeAny_builtin F.entry_type_call ?_⟩
  rw [Around.under_plain (weight_type_call_type "set" [.ref l] []) rfl]
  have h1 := F.called_set.notType
  have h2 := F.called_set.canCreate
  have hct := F.typeCall_set_1 (.ref l)
  repeat (any_goals (first | assumption | wp_step))
  refine codeAny_mono (code_set_led1 (.ref l) (E := E) (Q₁ := fun obj s₁ => obj = .ref s.heap.objs.size ∧ s₁ = { s with heap := s.heap.push { cls := .type "set", dict := none, data := .set #[] 0 (.fresh 0 0 (!w.params.followText "set-order")) } }) ⟨rfl, rfl⟩) fun r s₁ hr => ?_
  cases r with
  | error e => exact hr
  | ok fl =>
    cases fl with
    | ret obj =>
      obtain ⟨rfl, rfl⟩ := hr
      have hS : (s.heap.push { cls := .type "set", dict := none, data := .set #[] 0 (.fresh 0 0 (!w.params.followText "set-order")) }).get? s.heap.objs.size = some { cls := .type "set", dict := none, data := .set #[] 0 (.fresh 0 0 (!w.params.followText "set-order")) } := Heap.get?_push_size _ rfl
      have hT : Shared.TypeIs { s with heap := s.heap.push { cls := .type "set", dict := none, data := .set #[] 0 (.fresh 0 0 (!w.params.followText "set-order")) } } (.ref s.heap.objs.size) "set" := ⟨_, hS, rfl⟩
      have hli := F.called_set.init.lookup
      have hbi := F.called_set.init.bind (.ref s.heap.objs.size)
      repeat (any_goals (first | assumption | wp_step))
      refine codeAny_mono (codeAny_call_builtin (R := wants (fun r s₂ => r = .none ∧ ∃ h' tk, s₂ = { s with heap := h', toks := tk } ∧ SetR w h' s.heap.objs.size (inS (firstMet (fun i => ns.getD i 0) items.size)) (firstMet (fun i => ns.getD i 0) items.size).length ∧
          (∀ b o, s.heap.get? b = some o → h'.get? b = some o)) E) F.called_set.init.plain F.entry_set_init (check_set_init_1 hT ?_)) fun r₂ s₂ hr₂ => ?_
      · obtain ⟨ol, hol, hcl, nl, hdl⟩ := hl
        obtain ⟨ocls, odict, odata, oslots⟩ := ol
        simp only at hcl hdl
        subst hcl; subst hdl
        have hol' : (s.heap.push { cls := .type "set", dict := none, data := .set #[] 0 (.fresh 0 0 (!w.params.followText "set-order")) }).get? l = some { cls := .type "list", dict := odict, data := .seq items nl, slots := oslots } := Heap.get?_push_of_some _ hol
        have hsls := F.sub_list_set
        have hslf := F.sub_list_frozenset
        have hne : (Value.type "list" == Value.type "dict") = false := by decide
        have hl1 : (s.heap.push { cls := .type "set", dict := none, data := .set #[] 0 (.fresh 0 0 (!w.params.followText "set-order")) }).IsList l items := ⟨_, hol', rfl, nl, rfl⟩
        unfold Builtin.«set.__init__» noKeywords Builtin.Frozenset.updateFrom
        generalize hPI : pyIter = PI
        wp_walk
        subst hPI
        refine wpAny_pyIter_list hl1 ?_
        refine wpAny_bind (wpAny_runValue ?_)
        have hlS : l < s.heap.objs.size := Heap.lt_size hol
        have hh3 : A.in1.in1.in1.handled = none := by simp [hh]
        have hneI : l ≠ (s.heap.push { cls := .type "set", dict := none, data := .set #[] 0 (.fresh 0 0 (!w.params.followText "set-order")) }).objs.size := by
          rw [Heap.size_push]; exact Nat.ne_of_lt (Nat.lt_succ_of_lt hlS)
        have hSf : s.heap.objs.size ∉ [(s.heap.push { cls := .type "set", dict := none, data := .set #[] 0 (.fresh 0 0 (!w.params.followText "set-order")) }).objs.size, l] := by
          rw [Heap.size_push]; simp only [List.mem_cons, List.mem_singleton, List.not_mem_nil, or_false, not_or]
          exact ⟨Nat.ne_of_lt (Nat.lt_succ_self _), Nat.ne_of_gt hlS⟩
        have hval : ∀ (i : Nat) (v : Value), items[i]? = some v → ∃ t, v = .int ((fun i => ns.getD i 0) i) t := fun i v hv =>
          PyProof.Rows.IntsAre.int_at hi i v (by rw [Array.getElem?_toList]; exact hv)
        refine set_update_ints ((Walks.list hh3 _ l hneI items).toS) s.heap.objs.size
          hSf (fun i => ns.getD i 0) hval hb (items.size - 0) 0 _ (by omega) (Nat.zero_le _)
          ⟨⟨_, Heap.get?_push_size _ rfl, rfl, rfl⟩, (hl1.push _)⟩ ?hS0 ?hR
        case hS0 =>
          exact SetR.to ((setR_fresh w).at fun o e => Heap.get?_push_of_some _ e) (fun k => rfl) rfl
        case hR =>
          intro s' hm hS'
          obtain ⟨h', g2, d', tk', os'⟩ := s'
          have eg : g2 = s.gens := hm.gens
          have ed : d' = s.drawn := hm.drawn
          have eo : os' = s.os := hm.os
          subst eg; subst ed; subst eo
          show wpAny _ _ _ _ _ _
          refine wpAny_pure ?_
          show wpAny _ _ (ret Value.none) _ _ _
          refine wpAny_pure ⟨rfl, h', tk', rfl, hS', fun b o e => ?_⟩
          have hb0 := Heap.lt_size e
          have hb1 : b ≠ s.heap.objs.size := Nat.ne_of_lt hb0
          have hb2 : b ≠ (s.heap.push { cls := .type "set", dict := none, data := .set #[] 0 (.fresh 0 0 (!w.params.followText "set-order")) }).objs.size := by
            rw [Heap.size_push]; exact Nat.ne_of_lt (Nat.lt_succ_of_lt hb0)
          exact hm.heap b o (by simp only [List.mem_cons, List.mem_singleton, List.not_mem_nil, or_false, not_or]; exact ⟨hb1, hb2⟩) (Heap.get?_push_of_some _ (Heap.get?_push_of_some _ e))
      · cases r₂ with
        | error e => exact hr₂
        | ok fl₂ =>
          cases fl₂ with
          | ret r =>
            obtain ⟨rfl, h', tk, rfl, hS', hk'⟩ := hr₂
            repeat (any_goals (first | assumption | wp_step))
            exact h _ _ hS' hk'
          | _ => exact hr₂.elim
    | _ => exact hr.elim
end
section
variable {X : Cx}
def rSetI (K : PySem.W.Frag) (w : World) : List V → Hp → VK → Prop := fun vs H Q => ∃ (l : Addr) (ns : List Int), vs = [V.ref l] ∧ SqL K H l (ns.map V.int) ∧ ns.length ≤ 4000 ∧
  ∀ p S n, H p = none → (∀ k, S k = true ↔ k ∈ ns) → (∀ U : List Int, (∀ k ∈ ns, k ∈ U) → n ≤ U.length) → n ≤ ns.length → Q (.ref p) (upd H p (SetO w p S n))
theorem ossOf_nodup (l : List Int) : (PySem.W.ossOf l).Nodup := by
  have : ∀ (l ks : List Int), ks.Nodup → (l.foldl step_dedup ks).Nodup := fun l => by
    induction l with
    | nil => intro ks h; exact h
    | cons a l ih =>
      intro ks h
      rw [List.foldl_cons]
      refine ih _ ?_
      rw [PySem.W.oss_step]
      split
      · exact h
      · rename_i n
        rw [List.nodup_append]
        exact ⟨h, by simp, fun x hx y hy => by rw [List.mem_singleton.mp hy]; intro z; exact n (z ▸ hx)⟩
  exact this l [] List.nodup_nil
theorem nodup_len : ∀ {l U : List Int}, l.Nodup → (∀ k ∈ l, k ∈ U) → l.length ≤ U.length
  | [], _, _, _ => Nat.zero_le _
  | x :: l, U, nd, h => by
    have q := List.nodup_cons.mp nd
    have hx : x ∈ U := h x List.mem_cons_self
    have ih := nodup_len (U := U.erase x) q.2 fun k hk => by
      have hk' := h k (List.mem_cons_of_mem _ hk)
      exact (List.mem_erase_of_ne (fun z => q.1 (by subst z; exact hk))).mpr hk'
    have := List.length_erase_of_mem hx
    have := List.length_pos_of_mem hx
    simp only [List.length_cons]
    omega
theorem cr_setI (hc : X.calm = true) : CallR X (.type "set") (rSetI X.K X.w) := by
  intro pins s σ H xs us Q I r h
  obtain ⟨l, ns, rfl, hl, hk, q⟩ := h
  rw [Vals.ref1 r]
  obtain ⟨its, rv, pl, hz⟩ := I.list hl
  have hn : H s.heap.objs.size = none := I.hok.fresh (Nat.le_refl _)
  have hlen : its.toArray.size = ns.length := by rw [List.size_toArray, ← rv.length, List.length_map]
  refine call_set_ints (P := X.prog) (w := X.w) (ns := ns) (I.ok.hd hc) pl.isList (by simpa using rv.ints) (by rw [hlen]; unfold scanBound; omega) fun h' tk R k => ?_
  rw [hlen, PySem.W.oss_met] at R
  refine ⟨.ref s.heap.objs.size, upd H s.heap.objs.size (SetO X.w s.heap.objs.size (inS (PySem.W.ossOf ns)) (PySem.W.ossOf ns).length), I.laid (t' := tk) k (Nat.le_refl _) (setO_new R), rfl, q _ _ _ hn (fun k => ?_) (fun U hU => ?_) (PySem.W.oss_len ns)⟩
  · unfold inS
    rw [List.any_eq_true]
    constructor
    · rintro ⟨x, hx, e⟩
      rw [← beq_iff_eq.mp e]
      exact PySem.W.oss_has.mp hx
    · intro hk; exact ⟨k, PySem.W.oss_has.mpr hk, beq_self_eq_true k⟩
  · exact nodup_len (ossOf_nodup ns) fun k hk => hU k (PySem.W.oss_has.mp hk)
end
end Zh

/-! Zh2: more rules of the hand layer's kind: tuples known whole, dict(..) of them, len(set(..)) of keys. -/
namespace Zh
open PySem PySem.Spec PyProof.Rows L2

/-- a tuple known whole -/
def Whole (K : PySem.W.Frag) (H : Hp) (a : Addr) (xs : List V) : Prop :=
  (∃ o : Obj, o.dict = none ∧ H a = some (.frz o (.tup xs))) ∨
    ∃ (o : Obj) (its : Array Value) (n : Nat), o.dict = none ∧ K.lookup a = some o ∧ o.cls = .type "tuple" ∧ o.data = .seq its n ∧ its.size ≤ sizeLine ∧ Vals xs its.toList
theorem Whole.sq {K : PySem.W.Frag} {H : Hp} {a : Addr} {xs : List V} (w : Whole K H a xs) : SqT K H a xs := by
  rcases w with ⟨o, _, e⟩ | ⟨o, its, n, _, r⟩
  · exact .inl (.inr ⟨o, e⟩)
  · exact .inr ⟨o, its, n, r⟩
section
variable {X : Cx} {pins : List (Addr × Obj)} {σ : L2.St} {H : Hp} {s : Shared}
theorem whole_obj (I : Inv X pins σ H s) {a : Addr} {xs : List V} (w : Whole X.K H a xs) : ∃ (o : Obj) (its : List Value) (n : Nat), Vals xs its ∧ xs.length ≤ sizeLine ∧ s.heap.get? a = some o ∧ o.cls = .type "tuple" ∧ o.dict = none ∧ o.data = .seq its.toArray n := by
  rcases w with ⟨o, d, e⟩ | ⟨o, its, n, d, k, c, q, z, v⟩
  · obtain ⟨g, z, its, v, o', g', c, n, q⟩ := I.hok a _ e
    have eo : o = o' := by rw [g] at g'; exact Option.some.inj g'
    subst eo
    exact ⟨o, its, n, v, z, g, c, d, q⟩
  · have l : xs.length = its.toList.length := v.length
    have l2 : its.toList.length = its.size := by simp
    exact ⟨o, its.toList, n, v, by omega, I.kIn _ _ k, c, d, by simpa using q⟩
theorem pe_tupW {x1 : Nat} {es : List Expr} {t : TA} {pos : Pos} (h : PA X es t) : PE X (.Tuple es x1 pos) (fun σ H Q => t σ H fun xs H' => xs.length ≤ sizeLine ∧ ∀ p o, o.dict = none → H' p = none → Q (.ref p) (upd H' p (.frz o (.tup xs)))) := by
  refine ⟨fun pins s σ H Q I hq => wpAny_Tuple_spliced (thn (h.run pos pins s σ H _ I hq) fun us s1 ⟨xs, H1, I1, r, z, q⟩ => ?_)⟩
  refine ⟨by rw [← r.length]; exact z, .ref s1.heap.objs.size, _, I1.laid (o := .frz { cls := .type "tuple", data := .seq us.toArray } (.tup xs)) (t' := s1.toks) (fun b u e => Heap.get?_push_of_some _ e) (Nat.le_refl _) ?_, rfl, q _ _ rfl (I1.hok.fresh (Nat.le_refl _))⟩
  exact ⟨Heap.get?_push_size _ rfl, z, us, r, _, Heap.get?_push_size _ rfl, rfl, _, rfl⟩
theorem pe_tupleW {a : Expr} {ta : TE} {p pos : Pos} (hg : Gl X "tuple") (hm : X.mg "tuple" = none) (ha : PE X a ta) (na : starEach [a] X.env = (false, eval a X.env) :: starEach [] X.env) :
    PE X (.Call (.Name "tuple" p) [a] [] pos) (fun σ H Q => ta σ H fun x H1 => ∃ b xs, x = .ref b ∧ SqL X.K H1 b xs ∧ ∀ q o, o.dict = none → H1 q = none → Q (.ref q) (upd H1 q (.frz o (.tup xs)))) := by
  refine ⟨fun pins s σ H Q I h => Call_ (ld_blt I hg hm boot_tuple (PyProof.Rows.callWith_type1 (one_arg ha I h (fun v s2 x H2 I2 r q => ?_) na) na))⟩
  obtain ⟨b, xs, rfl, hs, q⟩ := q
  obtain rfl : v = .ref b := r
  obtain ⟨its, rv, pl, hz⟩ := I2.list hs
  refine call_tuple_list pl.isList (fun h' hk => ?_) (by have := rv.length; rw [List.size_toArray]; omega)
  have J : Inv X pins σ H2 { s2 with heap := h' } := I2.kept (t' := s2.toks) hk
  refine ⟨.ref h'.objs.size, _, J.laid (h' := h'.push { cls := .type "tuple", data := .seq its.toArray }) (o := .frz { cls := .type "tuple", data := .seq its.toArray } (.tup xs)) (t' := s2.toks) (fun c o e => Heap.get?_push_of_some _ e) (Nat.le_refl _) ?_, rfl, q _ _ rfl (J.hok.fresh (Nat.le_refl _))⟩
  exact ⟨Heap.get?_push_size _ rfl, hz, its, rv, IsTup.new _ _⟩

/-! ### dict(..) of a list of pairs, of a tuple of pairs that is known whole -/
def rDictP (K : PySem.W.Frag) : List V → Hp → VK → Prop := fun xs H Q => ∃ (a : Addr) (ps : List Addr) (kvs : List (Key × V)), xs = [.ref a] ∧ (SqL K H a (ps.map V.ref) ∨ Whole K H a (ps.map V.ref)) ∧ Paired (fun p kv => SqT K H p [kV kv.1, kv.2]) ps kvs ∧
  ∀ p, H p = none → Q (.ref p) (upd H p (.dK (mergeK [] kvs)))
theorem cr_dictP (hc : X.calm = true) : CallR X (.type "dict") (rDictP X.K) := by
  intro pins s σ H xs us Q I r ⟨a, ps, kvs, ex, hq, hp, q⟩
  rcases hq with hq | hq
  · exact call_dictP hc pins s σ H xs us Q I r ⟨a, ps, kvs, ex, hq, hp, q⟩
  subst ex
  obtain ⟨u, rfl, rx⟩ := vals1 r
  obtain rfl : u = .ref a := rx
  obtain ⟨o, its, n, rv, hz, ho, c, d, hd⟩ := whole_obj I hq
  obtain rfl := refs_at rv
  rw [List.length_map] at hz
  obtain ⟨prs, rel, hl, hpr⟩ := pairs_of I hp
  -- the pairs as they stand
  have hex : ∃ vs : List (Value × Value), vs.length = prs.length ∧ ∀ (j : Nat) (k v : Value), vs[j]? = some (k, v) → ∃ q b, prs[j]? = some q ∧ q.2 = v ∧ ps[j]? = some b ∧ IsTup s.heap b #[k, v] ∧ keyIs q.1 k = true := by
    refine ⟨(List.range prs.length).map fun j => match prs[j]? with
      | some q => (Classical.epsilon fun u => ∃ b, ps[j]? = some b ∧ IsTup s.heap b #[u, q.2] ∧ keyIs q.1 u = true, q.2)
      | none => (.none, .none), by simp, fun j k v e => ?_⟩
    obtain ⟨hj, e'⟩ := List.getElem?_eq_some_iff.mp e
    rw [List.length_map, List.length_range] at hj
    have g : prs[j]? = some prs[j] := List.getElem?_eq_getElem hj
    rw [List.getElem_map, List.getElem_range, g] at e'
    have e1 := congrArg Prod.fst e'
    have e2 := congrArg Prod.snd e'
    obtain ⟨b, u, h1, h2, h3⟩ := hpr j _ g
    have ep := Classical.epsilon_spec (p := fun u => ∃ b, ps[j]? = some b ∧ IsTup s.heap b #[u, prs[j].2] ∧ keyIs prs[j].1 u = true) ⟨u, b, h1, h2, h3⟩
    dsimp only at e1 e2
    rw [e1] at ep
    subst e2
    obtain ⟨b', k1, k2, k3⟩ := ep
    exact ⟨prs[j], b', g, rfl, k1, k2, k3⟩
  obtain ⟨vs, lv, hv⟩ := hex
  have pI : PairItems s.heap (ps.map Value.ref).toArray (fun j => ps.getD j 0) vs := by
    refine ⟨by rw [List.size_toArray, List.length_map]; omega, fun j k v e => ?_⟩
    obtain ⟨q', b, g1, g2, g3, g4, g5⟩ := hv j k v e
    have gd : ps.getD j 0 = b := by rw [List.getD_eq_getElem?_getD, g3]; rfl
    dsimp only
    refine ⟨?_, ?_⟩
    · rw [List.getElem?_toArray, List.getElem?_map, g3, gd]; rfl
    · rw [gd]; exact .inl g4
  refine PySem.call_dict_pairs (knd := mixKind X.prog X.w) (kvs := prs) (PairArg.tuple a _ (fun j => ps.getD j 0) vs) (I.ok.hd hc) ⟨⟨o, n, ho, c, d, hd⟩, pI⟩ ⟨lv.symm, fun j k v e => ?_⟩ (by omega) fun h' tk hd' k => ?_
  · obtain ⟨q', b, g1, g2, g3, g4, g5⟩ := hv j k v e
    exact ⟨q'.1, by rw [g1, ← g2], g5⟩
  · have k' : ∀ b o, s.heap.get? b = some o → h'.get? b = some o := fun b o e => k b o (fun z => nomatch z) e
    have ml := length_mergeK kvs []
    have rl := rel.length
    rw [List.length_nil] at ml
    refine ⟨.ref s.heap.objs.size, _, I.laid (o := .dK (mergeK [] kvs)) (t' := tk) k' (Nat.le_refl _) ⟨by omega, beq_eq_false_iff_ne.mpr (Nat.ne_of_gt I.big), merged [] prs, KV.merge rel .nil, hd'⟩, rfl, q _ (I.hok.fresh (Nat.le_refl _))⟩
end
/-! ### set(..) of a list of keys, whichever come twice -/
section
variable {κ : Type} [DecidableEq κ]
/-- each once, where it comes first -/
def firsts (xs : List κ) : List κ := xs.foldl (fun acc k => if k ∈ acc then acc else acc ++ [k]) []
theorem firsts_snoc (xs : List κ) (k : κ) : firsts (xs ++ [k]) = if k ∈ firsts xs then firsts xs else firsts xs ++ [k] := by
  unfold firsts; rw [List.foldl_append]; rfl
theorem firsts_le (xs : List κ) : (firsts xs).length ≤ xs.length := by
  have gen : ∀ (xs acc : List κ), (xs.foldl (fun acc k => if k ∈ acc then acc else acc ++ [k]) acc).length ≤ acc.length + xs.length := by
    intro xs
    induction xs with
    | nil => intro acc; exact Nat.le_refl _
    | cons x xs ih =>
      intro acc
      rw [List.foldl_cons]
      have h := ih (if x ∈ acc then acc else acc ++ [x])
      rw [List.length_cons]
      split at h
      · rename_i hx; rw [if_pos hx]; omega
      · rename_i hx
        rw [List.length_append, List.length_singleton] at h
        rw [if_neg hx]; omega
  have h := gen xs []
  rw [List.length_nil, Nat.zero_add] at h
  exact h
def inFirst (ks : List κ) (k : κ) : Bool := decide (k ∈ firsts ks)
theorem inFirst_snoc (ks : List κ) (k j : κ) : inFirst (ks ++ [k]) j = (inFirst ks j || decide (j = k)) := by
  unfold inFirst
  rw [firsts_snoc]
  by_cases h : k ∈ firsts ks
  · rw [if_pos h]
    by_cases e : j = k
    · subst e; simp [h]
    · simp [e]
  · rw [if_neg h]
    by_cases e : j = k <;> simp [e]
theorem firsts_snoc_len (ks : List κ) (k : κ) : (firsts (ks ++ [k])).length = if inFirst ks k = true then (firsts ks).length else (firsts ks).length + 1 := by
  rw [firsts_snoc]
  unfold inFirst
  by_cases h : k ∈ firsts ks <;> simp [h]
end
section
variable {P : Program} {w : World} {A : Around} {R : Result → Shared → Prop} {I : Addr} {fp wr : List Addr} {G : Array GenState → Array GenState → Prop} {n : Nat} {Pv : Nat → Value → Prop} {St : Nat → Shared → Prop}
theorem keys_loop (Wk : WalksS P w A.in1 I fp wr G n Pv St) (S : Addr) (off : S ∉ fp) (ks : List Key) (hl : ks.length = n) (hv : ∀ i v, Pv i v → ∃ k, ks[i]? = some k ∧ RelV (kV k) v) (room : n + 1 < scanBound) :
    ∀ (m i : Nat) (s : Shared), n - i = m → i ≤ n → St i s → s.heap.SetOf (mixKind P w) S (inFirst (ks.take i)) (firsts (ks.take i)).length →
      (∀ t, Moved (S :: wr) G s t → t.heap.SetOf (mixKind P w) S (inFirst ks) (firsts ks).length → R (.ok (.ret .none)) t) → codeAny (model P w) A (.builtin "set.update.loop" ⟨[.ref S, .ref I], []⟩) R s := by
  have offw : S ∉ wr := fun z => off (Wk.sub S z)
  have more : ∀ b, b ∈ wr → b ∈ S :: wr := fun b z => List.mem_cons_of_mem S z
  intro m
  induction m with
  | zero =>
    intro i s hm hi st hS out
    obtain rfl : i = n := by omega
    refine codeAny_builtin PyProof.Rows.F.entry_set_update_loop ?_
    rw [Around.under_plainId PyProof.Rows.F.plain_set_update_loop _]
    refine wpAny_bind (m := pyNext (.ref I)) (Wk.done s _ _ st fun t mv => wpAny_pure (out t (mv.mono more) ?_))
    obtain ⟨o, es, ep, tb, ho, r⟩ := hS
    rw [List.take_of_length_le (by omega)] at r
    exact ⟨o, es, ep, tb, mv.heap S o offw ho, r⟩
  | succ m ih =>
    intro i s hm hi st hS out
    have lt : i < n := by omega
    refine codeAny_builtin PyProof.Rows.F.entry_set_update_loop ?_
    rw [Around.under_plainId PyProof.Rows.F.plain_set_update_loop _]
    refine wpAny_bind (m := pyNext (.ref I)) (Wk.item i s _ _ lt st fun v t hP st' mv => ?_)
    obtain ⟨k, gk, rk⟩ := hv i v hP
    have hS1 : t.heap.SetOf (mixKind P w) S (inFirst (ks.take i)) (firsts (ks.take i)).length := by
      obtain ⟨o, es, ep, tb, ho, r⟩ := hS
      exact ⟨o, es, ep, tb, mv.heap S o offw ho, r⟩
    have tk : ks.take (i + 1) = ks.take i ++ [k] := by rw [List.take_add_one, gk]; rfl
    have rm : (firsts (ks.take i)).length + 1 < scanBound := by
      have h := firsts_le (ks.take i)
      rw [List.length_take] at h
      omega
    refine wpAny_bind (m := holding [v] (setAdd S v)) (wpAny_holding ?_)
    unfold setAdd
    refine wpAny_holding (wpAny_bind ((mixKind P w).pyHash (k := k) (kV_is rk) ?_))
    refine wpAny_setAddHashed_of (knd := mixKind P w) (s := { t with toks := t.toks + 1 }) (kV_is rk) (key_scan rk) hS1 rm fun h' sb hS2 => ?_
    have hS3 : h'.SetOf (mixKind P w) S (inFirst (ks.take (i + 1))) (firsts (ks.take (i + 1))).length := by
      rw [tk, firsts_snoc_len]
      have e : inFirst (ks.take i ++ [k]) = fun j => inFirst (ks.take i) j || decide (j = k) := funext (inFirst_snoc _ k)
      rw [e]
      exact hS2
    refine wpAny_pure ⟨plainId_quiet PyProof.Rows.F.plain_set_update_loop _, ih (i + 1) _ (by omega) lt (Wk.frame _ t _ _ st' (Nat.le_succ _) fun b hb o e => ?_) hS3 fun u mu hS4 => out u (Moved.trans Wk.gtrans ((mv.mono more).then_heap (Nat.le_succ _) fun b o hb e => ?_) mu) hS4⟩
    · have nb : b ≠ S := fun z => off (z ▸ hb)
      rw [sb.2 b nb]; exact e
    · have nb : b ≠ S := fun z => hb (z ▸ List.mem_cons_self)
      rw [sb.2 b nb]; exact e
end
section
variable {P : Program} {w : World} {A : Around} {E : Value → Shared → Prop} {s : Shared}
theorem keys_init {S l : Addr} {led : Bool} {items : Array Value} {ks : List Key} {Q : Shared → Prop} (hh : A.handled = none) (hset : s.heap.get? S = some { cls := .type "set", dict := none, data := .set #[] 0 (.fresh 0 0 led) }) (hne : l ≠ S) (hl : s.heap.IsList l items) (hz : ks.length = items.size) (hv : ∀ (i : Nat) v, items[i]? = some v → ∃ k, ks[i]? = some k ∧ RelV (kV k) v) (room : ks.length + 1 < scanBound)
    (out : ∀ h' tk, h'.SetOf (mixKind P w) S (inFirst ks) (firsts ks).length → (∀ b o, b ≠ S → s.heap.get? b = some o → h'.get? b = some o) → Q { s with heap := h', toks := tk }) :
    codeAny (model P w) A (.call (.builtin "set.__init__") ⟨[.ref S, .ref l], []⟩) (wants (fun r t => r = .none ∧ Q t) E) s := by
  refine codeAny_call_builtin PySem.F.called_set.init.plain PySem.F.entry_set_init (check_set_init_1 ⟨_, hset, rfl⟩ ?_)
  obtain ⟨o, ho, hc, k, hd⟩ := hl
  have e1 := PySem.F.sub_list_set
  have e2 := PySem.F.sub_list_frozenset
  have e3 : (Value.type "list" == Value.type "dict") = false := by decide
  have hlt : s.TypeIs (.ref l) "list" := ⟨o, ho, hc⟩
  have hil : s.heap.IsList l items := ⟨o, ho, hc, k, hd⟩
  obtain ⟨c, dc, dt, sl⟩ := o
  simp only at hc hd
  subst hc hd
  obtain ⟨hp, g, dr, tk0, os⟩ := s
  unfold Builtin.«set.__init__» noKeywords Builtin.Frozenset.updateFrom
  generalize hPI : pyIter = PI
  wp_walk
  subst hPI
  refine wpAny_pyIter_list hil ?_
  refine wpAny_bind (wpAny_runValue ?_)
  have hll : l < hp.objs.size := Heap.lt_size ho
  have h3 : A.in1.in1.handled = none := by simp [hh]
  have nI : l ≠ hp.objs.size := Nat.ne_of_lt hll
  have nS : S ≠ hp.objs.size := Nat.ne_of_lt (Heap.lt_size hset)
  refine keys_loop ((Walks.list h3 hp.objs.size l nI items).toS) S (by simp only [List.mem_cons, List.mem_singleton, List.not_mem_nil, or_false, not_or]; exact ⟨nS, fun z => hne z.symm⟩) ks hz (fun i v h => hv i v h) (by omega) (items.size - 0) 0 _ (by omega) (Nat.zero_le _) ?_ ?_ fun t mv hS' => ?_
  · exact ⟨⟨_, Heap.get?_push_size _ rfl, rfl, rfl⟩, hil.push _⟩
  · rw [show inFirst (ks.take 0) = fun _ => false from funext fun j => by rw [List.take_zero]; rfl, show (firsts (ks.take 0)).length = 0 from by rw [List.take_zero]; rfl]
    exact ⟨_, #[], 0, _, Heap.get?_push_of_some _ hset, ⟨rfl, rfl, rfl⟩, rfl, fun e he => by simp at he, fun k => by simp, by decide, by rfl, rfl⟩
  · obtain ⟨h', g', d', tk', os'⟩ := t
    obtain rfl : g' = g := mv.gens
    obtain rfl : d' = dr := mv.drawn
    obtain rfl : os' = os := mv.os
    refine wpAny_pure (wpAny_pure ⟨rfl, out h' tk' hS' fun b o nb e => mv.heap b o ?_ (Heap.get?_push_of_some _ e)⟩)
    simp only [List.mem_cons, List.mem_singleton, List.not_mem_nil, or_false, not_or]
    exact ⟨nb, Nat.ne_of_lt (Heap.lt_size e)⟩
theorem call_keys {l : Addr} {items : Array Value} {ks : List Key} {Q : Value → Shared → Prop} (hh : A.handled = none) (hl : s.heap.IsList l items) (hz : ks.length = items.size) (hv : ∀ (i : Nat) v, items[i]? = some v → ∃ k, ks[i]? = some k ∧ RelV (kV k) v) (room : ks.length + 1 < scanBound)
    (out : ∀ h' tk, h'.SetOf (mixKind P w) s.heap.objs.size (inFirst ks) (firsts ks).length → (∀ b o, s.heap.get? b = some o → h'.get? b = some o) → Q (.ref s.heap.objs.size) { s with heap := h', toks := tk }) :
    wpAny (model P w) A (call (.type "set") [.ref l]) Q E s := by
  obtain ⟨c, tl, k0⟩ := PySem.F.called_set.mro
  have k1 := PySem.F.called_set.made
  have k2 := PySem.F.called_set.sub
  refine wpAny_call (codeAny_of_tree ?_)
  show wpAny (model P w) _ (callAny (.type "set") _) _ _ _
  refine wpAny_pure ⟨Code.quiet_builtin _ (by decide +kernel), codeAny_builtin PySem.F.entry_type_call ?_⟩
  rw [Around.under_plain (weight_type_call_type "set" [.ref l] []) rfl]
  have k3 := PySem.F.called_set.notType
  have k4 := PySem.F.called_set.canCreate
  have k5 := PySem.F.typeCall_set_1 (.ref l)
  repeat (any_goals (first | assumption | wp_step))
  refine codeAny_mono (code_set_new_1 (.ref l) (E := E) (Q₁ := fun v t => ∃ led : Bool, v = .ref s.heap.objs.size ∧ t = { s with heap := s.heap.push { cls := .type "set", dict := none, data := .set #[] 0 (.fresh 0 0 led) } }) fun led => ⟨led, rfl, rfl⟩) fun r t hr => ?_
  match r, hr with
  | .error e, hr => exact hr
  | .ok (.ret v), ⟨led, hv1, hv2⟩ =>
    subst hv1 hv2
    have hset : (s.heap.push { cls := .type "set", dict := none, data := .set #[] 0 (.fresh 0 0 led) }).get? s.heap.objs.size = some { cls := .type "set", dict := none, data := .set #[] 0 (.fresh 0 0 led) } := Heap.get?_push_size _ rfl
    have hT : Shared.TypeIs { s with heap := s.heap.push { cls := .type "set", dict := none, data := .set #[] 0 (.fresh 0 0 led) } } (.ref s.heap.objs.size) "set" := ⟨_, hset, rfl⟩
    have k6 := PySem.F.called_set.init.lookup
    have k7 := PySem.F.called_set.init.bind (.ref s.heap.objs.size)
    repeat (any_goals (first | assumption | wp_step))
    have ll : l < s.heap.objs.size := let ⟨o, ho, _⟩ := hl; Heap.lt_size ho
    refine codeAny_mono (keys_init (E := E) (Q := fun t => Q (.ref s.heap.objs.size) t) (by simp [hh]) hset (Nat.ne_of_lt ll) (hl.push _) hz hv room fun h' tk hS k => out h' tk hS fun b o e => k b o (Nat.ne_of_lt (Heap.lt_size e)) (Heap.get?_push_of_some _ e)) fun r t hr => ?_
    match r, hr with
    | .error e, hr => exact hr
    | .ok (.ret v), ⟨e, q⟩ =>
      subst e
      repeat (any_goals (first | assumption | wp_step))
end
section
variable {X : Cx}
def rSetKeys (P : Program) (w : World) (K : PySem.W.Frag) : List V → Hp → VK → Prop := fun vs H Q => ∃ (a : Addr) (ks : List Key), vs = [V.ref a] ∧ SqL K H a (ks.map kV) ∧ ks.length + 1 < scanBound ∧ ∀ p, H p = none → Q (.ref p) (upd H p (SetK P w p (inFirst ks) (firsts ks).length))
theorem cr_setKeys (hc : X.calm = true) : CallR X (.type "set") (rSetKeys X.prog X.w X.K) := by
  intro pins s σ H vs us Q I r ⟨a, ks, ev, hs, room, q⟩
  subst ev
  obtain ⟨its, rv, pl, hz⟩ := I.list hs
  rw [Vals.ref1 r]
  have ln : (ks.map kV).length = its.length := rv.length
  rw [List.length_map] at ln
  refine call_keys (ks := ks) (I.ok.hd hc) pl.isList (by simpa using ln) (fun i v e => ?_) room fun h' tk hS k => ?_
  · rw [List.getElem?_toArray] at e
    obtain ⟨hi, _⟩ := List.getElem?_eq_some_iff.mp e
    have hi' : i < ks.length := by omega
    obtain ⟨u, hu, ru⟩ := rv.get (i := i) (x := kV ks[i]) (by simp [hi'])
    rw [e] at hu
    cases hu
    exact ⟨ks[i], List.getElem?_eq_getElem hi', ru⟩
  · exact ⟨.ref s.heap.objs.size, _, I.laid (t' := tk) k (Nat.le_refl _) (setK_new hS), rfl, q _ (I.hok.fresh (Nat.le_refl _))⟩
/-- len(..) of a set of keys -/
def rLenSetK (P : Program) (w : World) : List V → Hp → VK → Prop := fun vs H Q => ∃ (a : Addr) (S : Key → Bool) (n : Nat), vs = [V.ref a] ∧ H a = some (SetK P w a S n) ∧ n < 2 ^ 62 ∧ Q (.int n) H
theorem cr_lenSetK : CallR X (.builtin "len") (rLenSetK X.prog X.w) := by
  intro pins s σ H vs us Q I r ⟨a, S, n, ev, hs, hn, q⟩
  subst ev
  rw [Vals.ref1 r]
  obtain ⟨o, es, ep, t, ho, hex, hd, _, _, _, hf, en⟩ := setK_get I hs
  exact call_len_set ho hex hd hf (by rw [en]; omega) ⟨.int n, H, I.tok _, ⟨_, by rw [en]⟩, q⟩
end
/-! ### a text some times -/
theorem rep_app {α : Type} (xs : Array α) : ∀ (n : Nat) (acc : Array α), (List.replicate n xs).foldl (· ++ ·) acc = acc ++ (List.replicate n xs.toList).flatten.toArray
  | 0, acc => by simp
  | n + 1, acc => by
    rw [List.replicate_succ, List.foldl_cons, rep_app xs n, List.replicate_succ, List.flatten_cons]
    apply Array.ext'
    simp
theorem op_rep_str {X : Cx} : OpR X (binaryOp .Mult) (fun x y H Q => ∃ (s : Str) (k : Int), x = .str s ∧ y = .int k ∧ 0 ≤ k ∧ k ≤ 1000000 ∧ s.length * k.toNat ≤ 1000000 ∧ Q (.str ⟨(List.replicate k.toNat s.cps.toList).flatten.toArray⟩) H) := by
  intro pins s σ H x y v u Q I rx ry ⟨z, k, ex, ey, k0, k1, hl, q⟩
  subst ex ey
  obtain ⟨t, rfl⟩ := rx
  obtain ⟨t', rfl⟩ := ry
  have dr : (decide (k < -(2 ^ 63 : Int)) || decide (k ≥ 2 ^ 63)) = false := by
    rw [decide_eq_false (by omega), decide_eq_false (by omega)]; rfl
  have sz : z.length * k.toNat ≤ 1000000 := hl
  refine P.mul_str dr (fun h1 _ h2 => ?_) (fun _ _ => ?_) ?_
  · have h3 : (z.length : Int) ≤ (2 ^ 63 - 1) / k := by
      rw [Int.le_ediv_iff_mul_le (by omega)]
      have e : (z.length : Int) * k = ((z.length * k.toNat : Nat) : Int) := by rw [Int.natCast_mul, Int.toNat_of_nonneg k0]
      rw [e]
      omega
    omega
  · unfold Builtin.Str.tooLong
    rw [decide_eq_false]
    rw [sizeLine_eq]
    omega
  · have whole : ∀ w : Str, w = ⟨(List.replicate k.toNat z.cps.toList).flatten.toArray⟩ → ∀ (w' : Tok) s', L2.Inv X pins σ H s' → EP X pins σ Q (.str w w') s' := fun w e w' s' I' => ⟨.str _, H, I', ⟨w', by rw [e]⟩, q⟩
    split
    · rename_i c
      have e0 : k.toNat = 0 := by omega
      exact ⟨by decide, whole _ (by rw [e0]; rfl) _ _ (I.tok _)⟩
    · rename_i c
      split
      · rename_i c2
        refine whole _ ?_ _ _ I
        rw [Bool.or_eq_true] at c2
        rcases c2 with c2 | c2
        · have e1 : k.toNat = 1 := by have := eq_of_beq c2; omega
          rw [e1]
          obtain ⟨cp⟩ := z
          simp
        · have e0 : z.cps.toList = [] := by
            have h := eq_of_beq c2
            have h' : z.cps.size = 0 := h
            exact Array.toList_eq_nil_iff.mpr (Array.eq_empty_of_size_eq_zero h')
          obtain ⟨cp⟩ := z
          have e0' : cp.toList = [] := e0
          have : cp = #[] := Array.toList_eq_nil_iff.mp e0'
          subst this
          simp
      · refine ⟨?_, whole _ ?_ _ _ (I.tok _)⟩
        · show (((List.replicate k.toNat z.cps).foldl (· ++ ·) #[]).size ≤ _)
          rw [rep_app]
          simp [List.length_flatten, sizeLine_eq]
          rw [Nat.mul_comm]
          have : z.cps.size * k.toNat ≤ 1000000 := sz
          omega
        · rw [rep_app]
          apply congrArg
          simp
end Zh

/-! Zh3: enumerate and zip over lists and tuples, whichever. -/
namespace Zh
open PySem PySem.Spec PyProof.Rows L2

/-- a list (false), a tuple (true) -/
def SqB (t : Bool) (K : PySem.W.Frag) (H : Hp) (a : Addr) (xs : List V) : Prop := match t with
  | false => SqL K H a xs
  | true => SqT K H a xs
def atB (t : Bool) (h : Heap) (a : Addr) (its : Array Value) : Prop := match t with
  | false => h.IsList a its
  | true => h.IsTuple a its
def itB (t : Bool) (h : Heap) (i a : Addr) (k : Nat) : Prop := match t with
  | false => h.IsListIter i a k
  | true => h.IsTupleIter i a k
def itO (t : Bool) (a : Addr) : Obj := match t with
  | false => { cls := .type "list_iterator", data := .fields #[.ref a, .int 0 0] }
  | true => { cls := .type "tuple_iterator", data := .fields #[.ref a, .int 0 0] }
section
variable {X : Cx} {pins : List (Addr × Obj)} {σ : L2.St} {H : Hp} {s : Shared} {a : Addr} {xs : List V} {t : Bool}
theorem sqB_at (I : Inv X pins σ H s) (q : SqB t X.K H a xs) : ∃ its : List Value, Vals xs its ∧ atB t s.heap a its.toArray ∧ a < s.heap.objs.size := by
  cases t with
  | false =>
    obtain ⟨its, r, p, _⟩ := I.list q
    exact ⟨its, r, p.isList, p.lt⟩
  | true =>
    obtain ⟨its, r, p, _⟩ := I.tuple q
    exact ⟨its, r, p, p.lt⟩
theorem sqB_inj (I : Inv X pins σ H s) {ys : List V} (q : SqB t X.K H a xs) (q2 : SqB t X.K H a ys) : xs = ys := by
  cases t with
  | false => exact I.list_inj q q2
  | true => exact I.tuple_inj q q2
end
theorem draws_B {P : Program} {w : World} {A : Around} (hh : A.handled = none) (t : Bool) (i a : Addr) (ne : a ≠ i) (its : Array Value) : Draws P w A i [i, a] its.size (fun j v => its[j]? = some v) (fun j h => itB t h i a j ∧ atB t h a its) := by
  cases t with
  | false => exact Draws.list hh i a ne its
  | true => exact Draws.tuple hh i a ne its
theorem begins_B (t : Bool) (a : Addr) (its : Array Value) : Begins (.ref a) (itO t a) fun h => atB t h a its := by
  cases t with
  | false => exact begins_list a its
  | true => exact begins_tuple a its
theorem itB_at {t : Bool} {h h' : Heap} {i a : Addr} {k : Nat} (x : itB t h i a k) (e : ∀ o, h.get? i = some o → h'.get? i = some o) : itB t h' i a k := by
  cases t with
  | false => exact x.at e
  | true => exact x.at e
theorem atB_at {t : Bool} {h h' : Heap} {a : Addr} {its : Array Value} (x : atB t h a its) (e : ∀ o, h.get? a = some o → h'.get? a = some o) : atB t h' a its := by
  cases t with
  | false => exact x.at e
  | true => exact x.at e
theorem itB_obj {t : Bool} {h : Heap} {i a : Addr} {k : Nat} (x : itB t h i a k) : ∃ o, h.get? i = some o ∧ ∀ v, o.data ≠ .cell v := by
  cases t with
  | false =>
    obtain ⟨o, e, _, d⟩ := x
    exact ⟨o, e, fun v q => by rw [d] at q; cases q⟩
  | true =>
    obtain ⟨o, e, _, d⟩ := x
    exact ⟨o, e, fun v q => by rw [d] at q; cases q⟩
theorem itB_new {t : Bool} {h : Heap} {i a : Addr} (e : h.get? i = some (itO t a)) : itB t h i a 0 := by
  cases t with
  | false => exact ⟨_, e, rfl, rfl⟩
  | true => exact ⟨_, e, rfl, rfl⟩

/-! ### enumerate(x) -/
set_option maxHeartbeats 1000000 in
theorem meets_enum1 {v : Value} {o : Obj} {G : Heap → Prop} (B : Begins v o G) :
    Meets (Builtin.«enumerate.__new__» ⟨[.type "enumerate", v], []⟩) (fun _ R s => G s.heap ∧
      R (.ok (.ret (.ref (s.heap.push o).objs.size))) { s with heap := (s.heap.push o).push { cls := .type "enumerate", data := .fields #[.none, .bool false, .ref s.heap.objs.size, rawInt 0, .none, .none] } }) :=
  .of_wp fun P w A R s h => by
    obtain ⟨hp, g, d, tk, os⟩ := s
    obtain ⟨h1, h⟩ := h
    have hsub := sub_enumerate
    have q1 : ∀ {A' : Around} {E : Value → Shared → Prop} {Q : Value → Shared → Prop}, Q (.ref hp.objs.size) ⟨hp.push o, g, d, tk, os⟩ → wpAny (model P w) A' (pyIter v) Q E ⟨hp, g, d, tk, os⟩ :=
      fun q => B.iter P w _ _ ⟨hp, g, d, tk, os⟩ _ h1 q
    wp_walk using q1
    refine wpAny_stack_any fun st => wpAny_pure ?_
    split
    · rename_i c _ _ _ _ _
      cases (c == Value.type "enumerate") <;> (wp_walk using q1; exact ⟨_, rfl, h⟩)
    · wp_walk using q1
      exact ⟨_, rfl, h⟩
theorem enum1_begins {P : Program} {w : World} {A : Around} {E : Value → Shared → Prop} {s : Shared} {v : Value} {o : Obj} {G : Heap → Prop} {Q : Value → Shared → Prop} (B : Begins v o G) (h1 : G s.heap)
    (h : ∀ h', IsEnum h' (s.heap.objs.size + 1) s.heap.objs.size 0 .none → h'.get? s.heap.objs.size = some o → (∀ b u, s.heap.get? b = some u → h'.get? b = some u) → Q (.ref (s.heap.objs.size + 1)) { s with heap := h' }) :
    wpAny (model P w) A (call (.type "enumerate") [v]) Q E s := by
  refine callType_new F.called_enumerate (by decide) (F.typeCall_enumerate_1 _) (F.newCall_enumerate_1 _) (fun u => F.args_object_init_2 u _) F.entry_enumerate_new (meets_enum1 B) ⟨h1, ?_⟩
  have hz : (s.heap.push o).objs.size = s.heap.objs.size + 1 := Heap.size_push ..
  show _ ∧ _
  rw [hz]
  have he : IsEnum ((s.heap.push o).push { cls := .type "enumerate", data := .fields #[.none, .bool false, .ref s.heap.objs.size, rawInt 0, .none, .none] }) (s.heap.objs.size + 1) s.heap.objs.size 0 .none := by
    have q := Heap.get?_push_size (s.heap.push o) (o := { cls := .type "enumerate", data := .fields #[.none, .bool false, .ref s.heap.objs.size, rawInt 0, .none, .none] }) rfl
    rw [hz] at q
    exact q
  exact ⟨⟨_, he, rfl⟩, h _ he (Heap.get?_push_of_some _ (Heap.get?_push_size _ B.free)) fun b u e => Heap.get?_push_of_some _ (Heap.get?_push_of_some _ e)⟩
def IteB (t : Bool) (K : PySem.W.Frag) (a : Addr) : It :=
  ⟨fun i H => ∃ (xs : List V) (x : V), SqB t K H a xs ∧ xs[i]? = some x,
   fun i H v H' => ∃ T x, v = .ref T ∧ H T = none ∧ H' = upd H T (.tup [.int (i : Nat), x]) ∧ ∀ xs, SqB t K H a xs → xs[i]? = some x,
   fun i H => ∃ xs : List V, SqB t K H a xs ∧ xs.length = i⟩
theorem turn_enumB {P : Program} {w : World} {K : PySem.W.Frag} {elts : List Expr} {kk : Nat} {tpos : Pos} (t : Bool) (a e it : Addr) (nea : a ≠ e) (nei : a ≠ it) :
    Turn P w K (.Tuple elts kk tpos) (IteB t K a) [e, it] e (fun i h => (∃ old, IsEnum h e it ((i : Nat) : Int) old) ∧ itB t h it a i ∧ e ≠ it) where
  mem := List.mem_cons_self
  obj := fun i h ⟨⟨old, he⟩, hi, _⟩ b hb => by
    rcases List.mem_cons.mp hb with z | z
    · rw [z]; exact ⟨_, he, fun v q => nomatch q⟩
    · rw [List.mem_singleton.mp z]; exact itB_obj hi
  keep := fun i h h' ⟨⟨old, he⟩, hi, ne⟩ k => ⟨⟨old, k e List.mem_cons_self _ he⟩, itB_at hi fun o q => k it (List.mem_cons_of_mem _ List.mem_cons_self) o q, ne⟩
  item := by
    intro X hP hw hK hc i pins s σ H E I hf ⟨⟨old, he⟩, hit, hne⟩ ⟨xs, x, hq, hx⟩
    subst hP hw hK
    obtain ⟨its, rv, p, la⟩ := sqB_at I hq
    obtain ⟨u, hu, ru⟩ := rv.get hx
    have hel : e < s.heap.objs.size := Heap.lt_size he
    have hil : it < s.heap.objs.size := by obtain ⟨o, q, _⟩ := itB_obj hit; exact Heap.lt_size q
    have hlt : i < its.toArray.size := by have := (List.getElem?_eq_some_iff.mp hu).1; simpa using this
    refine wpAny_pyNext_enum_itemD (draws_B (by rw [show X.A.in1.handled = X.A.handled from rfl]; exact I.ok.hd hc) t it a nei its.toArray) he ⟨hit, p⟩ hlt hne (by simp [hne, nea.symm]) fun y h' tk hy ho hst hT hsz hk => ?_
    obtain rfl : u = y := by
      have q : its[i]? = some y := by simpa using hy
      rw [hu] at q
      exact Option.some.inj q
    refine ⟨_, rfl, wpAny_letOwnedTupleGo_enum (s := { s with heap := h', toks := tk + 1 }) ho fun h2 he2 sb => ?_⟩
    have hT2 : h2.get? s.heap.objs.size = some { cls := .type "tuple", data := .seq #[.int i tk, u] } := (sb.2 _ (Nat.ne_of_gt hel)).trans hT
    have new : ObjOk X.prog X.w (upd H s.heap.objs.size (.tup [.int (i : Nat), x])) h2 s.heap.objs.size (.tup [.int (i : Nat), x]) := ⟨(by decide : 2 ≤ sizeLine), [.int i tk, u], .cons ⟨_, rfl⟩ (.cons ru .nil), ⟨_, hT2, rfl, _, rfl⟩⟩
    have I1 : Inv X pins σ (upd H s.heap.objs.size (.tup [.int (i : Nat), x])) { s with heap := h2, toks := tk + 1 } :=
      I.turnedNew (ch := [e, it]) (fun b ob hb q => (sb.2 b fun z => hb (z ▸ List.mem_cons_self)).trans (hk b ob (fun z => hb (z ▸ List.mem_cons_self)) (fun z => hb (z ▸ List.mem_cons_of_mem _ List.mem_cons_self)) q)) hf (Nat.le_refl _) new
    refine ⟨.ref s.heap.objs.size, _, I1, rfl, ⟨_, x, rfl, I.hok.fresh (Nat.le_refl _), rfl, fun ys hy => by rw [sqB_inj I hy hq]; exact hx⟩, ⟨⟨u, ?_⟩, itB_at hst.1 fun o q => (sb.2 it (Ne.symm hne)).trans q, hne⟩, fun b hb => ?_⟩
    · rw [show ((i + 1 : Nat) : Int) = (i : Int) + 1 by omega]
      exact he2
    · have hb2 : b < s.heap.objs.size := by
        rcases List.mem_cons.mp hb with z | z
        · rw [z]; exact hel
        · rw [List.mem_singleton.mp z]; exact hil
      rw [upd_ne (Nat.ne_of_lt hb2)]
      exact (hf b hb).1
  done := by
    intro X hP hw hK hc i pins s σ H E I hf ⟨⟨old, he⟩, hit, hne⟩ ⟨xs, hq, hx⟩
    subst hP hw hK
    obtain ⟨its, rv, p, la⟩ := sqB_at I hq
    obtain ⟨f0, f1, f2, f3, f4, f5⟩ := hf it (List.mem_cons_of_mem _ List.mem_cons_self)
    have en : i = its.toArray.size := by have := rv.length; simp; omega
    refine wpAny_pyNext_enum_endD (draws_B (by rw [show X.A.in1.handled = X.A.handled from rfl]; exact I.ok.hd hc) t it a nei its.toArray) he (by rw [← en]; exact ⟨hit, p⟩) fun h' eb => ⟨rfl, I.turned (t' := s.toks) (fun b o hb q => eb b o hb q) f0 f1 f3 f4 f5⟩
  self := fun A i s Q E ⟨⟨_, he⟩, _⟩ h => wpAny_pyIter_enum he h
theorem pi_enumB {X : Cx} {e : Expr} {ta : TA} {p pos tpos : Pos} {elts : List Expr} {kk : Nat} (hg : Gl X "enumerate") (hm : X.mg "enumerate" = none) (ha : PA X [e] ta) (hs : starEach [e] X.env = [(false, eval e X.env)]) :
    PI X (.Tuple elts kk tpos) (.Call (.Name "enumerate" p) [e] [] pos) (fun σ H R => ta σ H fun vs H1 => ∃ t a xs, vs = [.ref a] ∧ SqB t X.K H1 a xs ∧ R (IteB t X.K a) H1) := by
  refine ⟨fun pins s σ H R I h => Call_ (ld_blt I hg hm boot_enumerate (PyProof.Rows.callWith_type1 (thn (ha.run pos pins s σ H _ I h) fun us s1 ⟨vs, H1, I1, r1, t, a, xs, ex, hq, q⟩ => ?_) hs rfl))⟩
  subst ex
  rw [Vals.ref1 r1]
  obtain ⟨its, rv, p', la⟩ := sqB_at I1 hq
  refine enum1_begins (begins_B t a its.toArray) p' fun h' he hit hk => wpAny_pyIter_enum he ?_
  have I2 : Inv X pins σ H1 { s1 with heap := h' } := I1.kept (t' := s1.toks) hk
  refine ⟨s1.heap.objs.size + 1, [s1.heap.objs.size + 1, s1.heap.objs.size], _, _, H1, rfl, I2, turn_enumB t a (s1.heap.objs.size + 1) s1.heap.objs.size (Nat.ne_of_lt (Nat.lt_succ_of_lt la)) (Nat.ne_of_lt la), ⟨⟨.none, he⟩, itB_new hit, Nat.succ_ne_self _⟩, fun b hb => ?_, q⟩
  have hle : s1.heap.objs.size ≤ b := by
    rcases List.mem_cons.mp hb with z | z
    · rw [z]; exact Nat.le_add_right _ _
    · rw [List.mem_singleton.mp z]; exact Nat.le_refl _
  exact I1.fpOk hle (I1.hok.fresh hle)
/-! ### zip(x, y) -/
def ItzB (t u : Bool) (K : PySem.W.Frag) (a b : Addr) : It :=
  ⟨fun i H => ∃ (xs ys : List V) (x y : V), SqB t K H a xs ∧ SqB u K H b ys ∧ xs[i]? = some x ∧ ys[i]? = some y,
   fun i H v H' => ∃ T x y, v = .ref T ∧ H T = none ∧ H' = upd H T (.tup [x, y]) ∧ (∀ xs, SqB t K H a xs → xs[i]? = some x) ∧ ∀ ys, SqB u K H b ys → ys[i]? = some y,
   fun i H => ∃ xs ys : List V, SqB t K H a xs ∧ SqB u K H b ys ∧ i ≤ xs.length ∧ i ≤ ys.length ∧ (i = xs.length ∨ i = ys.length)⟩
/-- five new places lie apart from two older ones -/
theorem ad_ne {a b : Nat} (h : a ≠ b) : @Ne Addr a b := h
theorem ad_no {a b c : Nat} (h : a ≠ b) (k : a ≠ c) : ¬ @Membership.mem Addr (List Addr) _ [b, c] a := fun m => by
  rcases List.mem_cons.mp m with z | z
  · exact h z
  · exact k (List.mem_singleton.mp z)
theorem sep_five (n a b : Nat) (la : a < n) (lb : b < n) : ZipSep2 (n + 4) (n + 2) (n + 3) n (n + 1) [n, a] [n + 1, b] where
  TIz := ad_ne (by omega)
  TOz := ad_ne (by omega)
  TITO := ad_ne (by omega)
  TIi1 := ad_ne (by omega)
  mem1 := List.mem_cons_self
  zf1 := ad_no (by omega) (by omega)
  Tf1 := ad_no (by omega) (by omega)
  TIi2 := ad_ne (by omega)
  mem2 := List.mem_cons_self
  zf2 := ad_no (by omega) (by omega)
  Tf2 := ad_no (by omega) (by omega)
  sep1_2 := ad_no (by omega) (by omega)
  sep2_1 := ad_no (by omega) (by omega)
theorem five {n c : Nat} (h : c ∈ [n + 4, n + 2, n + 3, n, n + 1]) : c = n + 4 ∨ c = n + 2 ∨ c = n + 3 ∨ c = n ∨ c = n + 1 := by simpa using h
theorem five_lt {n c N : Nat} (h : c ∈ [n + 4, n + 2, n + 3, n, n + 1]) (z : n + 4 < N) : c < N := by rcases five h with q | q | q | q | q <;> omega
theorem five_le {n c : Nat} (h : c ∈ [n + 4, n + 2, n + 3, n, n + 1]) : n ≤ c := by rcases five h with q | q | q | q | q <;> omega
theorem turn_zipB {P : Program} {w : World} {K : PySem.W.Frag} {elts : List Expr} {kk : Nat} {tpos : Pos} (t u : Bool) (a b n : Nat) (la : a < n) (lb : b < n) :
    Turn P w K (.Tuple elts kk tpos) (ItzB t u K a b) [n + 4, n + 2, n + 3, n, n + 1] (n + 4) (fun i h => IsZip h (n + 4) (n + 2) (n + 3) .none ∧ IsTupOf2 h (n + 2) (.ref n) (.ref (n + 1)) ∧ (∃ x y, IsTupOf2 h (n + 3) x y) ∧ itB t h n a i ∧ itB u h (n + 1) b i) where
  mem := List.mem_cons_self
  obj := fun i h ⟨hz, hTI, ⟨x, y, hTO⟩, h1, h2⟩ c hc => by
    rcases five hc with q | q | q | q | q
    · rw [q]; exact ⟨_, hz, fun v q => nomatch q⟩
    · rw [q]; exact ⟨_, hTI, fun v q => nomatch q⟩
    · rw [q]; exact ⟨_, hTO, fun v q => nomatch q⟩
    · rw [q]; exact itB_obj h1
    · rw [q]; exact itB_obj h2
  keep := fun i h h' ⟨hz, hTI, ⟨x, y, hTO⟩, h1, h2⟩ k => ⟨k (n + 4) (by simp) _ hz, k (n + 2) (by simp) _ hTI, ⟨x, y, k (n + 3) (by simp) _ hTO⟩, itB_at h1 fun o q => k n (by simp) o q, itB_at h2 fun o q => k (n + 1) (by simp) o q⟩
  item := by
    intro X hP hw hK hc i pins s σ H E I hf ⟨hz, hTI, ⟨x0, y0, hTO⟩, h1, h2⟩ ⟨xs, ys, x, y, hqx, hqy, hx, hy⟩
    subst hP hw hK
    obtain ⟨its, rv, p, _⟩ := sqB_at I hqx
    obtain ⟨its2, rv2, p2, _⟩ := sqB_at I hqy
    obtain ⟨v, hv, ru⟩ := rv.get hx
    obtain ⟨v2, hv2, ru2⟩ := rv2.get hy
    have hh : X.A.in1.handled = none := by rw [show X.A.in1.handled = X.A.handled from rfl]; exact I.ok.hd hc
    have lt1 : i < its.toArray.size := by have := (List.getElem?_eq_some_iff.mp hv).1; simpa using this
    have lt2 : i < its2.toArray.size := by have := (List.getElem?_eq_some_iff.mp hv2).1; simpa using this
    have zl : n + 4 < s.heap.objs.size := Heap.lt_size hz
    refine wpAny_pyNext_zipD2_item (sep_five n a b la lb) (draws_B hh t n a (Nat.ne_of_lt la) its.toArray) (draws_B hh u (n + 1) b (Nat.ne_of_lt (Nat.lt_succ_of_lt lb)) its2.toArray) hz hTI hTO ⟨h1, p⟩ ⟨h2, p2⟩ lt1 lt2 fun w1 w2 h' tk e1 e2 hz' hTO' st1 st2 hT hsz hk => ?_
    obtain rfl : v = w1 := by
      have q : its[i]? = some w1 := by simpa using e1
      rw [hv] at q
      exact Option.some.inj q
    obtain rfl : v2 = w2 := by
      have q : its2[i]? = some w2 := by simpa using e2
      rw [hv2] at q
      exact Option.some.inj q
    refine ⟨_, rfl, wpAny_letOwnedTupleGo_zip (s := { s with heap := h', toks := tk }) hz' fun h2' hz2 sb => ?_⟩
    have sb' : ∀ c, c ≠ n + 4 → h2'.get? c = h'.get? c := fun c nc => sb.2 c nc
    have hT2 : h2'.get? s.heap.objs.size = some { cls := .type "tuple", data := .seq #[v, v2] } := (sb' _ (Nat.ne_of_gt zl)).trans hT
    have new : ObjOk X.prog X.w (upd H s.heap.objs.size (.tup [x, y])) h2' s.heap.objs.size (.tup [x, y]) := ⟨(by decide : 2 ≤ sizeLine), [v, v2], .cons ru (.cons ru2 .nil), ⟨_, hT2, rfl, _, rfl⟩⟩
    have I1 : Inv X pins σ (upd H s.heap.objs.size (.tup [x, y])) { s with heap := h2', toks := tk } :=
      I.turnedNew (t' := tk) (ch := [n + 4, n + 2, n + 3, n, n + 1]) (fun c o hb q => (sb' c fun z => hb (by rw [z]; simp)).trans (hk c o (fun z => hb (by rw [z]; simp)) (fun z => hb (by rw [z]; simp)) (fun z => hb (by rw [z]; simp)) (fun z => hb (by rw [z]; simp)) q)) hf (Nat.le_refl _) new
    refine ⟨.ref s.heap.objs.size, _, I1, rfl, ⟨_, x, y, rfl, I.hok.fresh (Nat.le_refl _), rfl, fun l hl => by rw [sqB_inj I hl hqx]; exact hx, fun l hl => by rw [sqB_inj I hl hqy]; exact hy⟩, ⟨hz2, (sb' _ (ad_ne (by omega))).trans (hk _ _ (ad_ne (by omega)) (ad_ne (by omega)) (ad_ne (by omega)) (ad_ne (by omega)) hTI), ⟨v, v2, (sb' _ (ad_ne (by omega))).trans hTO'⟩, itB_at st1.1 fun o q => (sb' _ (ad_ne (by omega))).trans q, itB_at st2.1 fun o q => (sb' _ (ad_ne (by omega))).trans q⟩, fun c hcm => ?_⟩
    have hlt : c < s.heap.objs.size := five_lt hcm zl
    rw [upd_ne (Nat.ne_of_lt hlt)]
    exact (hf c hcm).1
  done := by
    intro X hP hw hK hc i pins s σ H E I hf ⟨hz, hTI, ⟨x0, y0, hTO⟩, h1, h2⟩ ⟨xs, ys, hqx, hqy, l1, l2, hend⟩
    subst hP hw hK
    obtain ⟨its, rv, p, _⟩ := sqB_at I hqx
    obtain ⟨its2, rv2, p2, _⟩ := sqB_at I hqy
    have hh : X.A.in1.handled = none := by rw [show X.A.in1.handled = X.A.handled from rfl]; exact I.ok.hd hc
    have e1 : its.toArray.size = xs.length := by rw [List.size_toArray, rv.length]
    have e2 : its2.toArray.size = ys.length := by rw [List.size_toArray, rv2.length]
    exact wpAny_pyNext_zipD2_end (sep_five n a b la lb) (draws_B hh t n a (Nat.ne_of_lt la) its.toArray) (draws_B hh u (n + 1) b (Nat.ne_of_lt (Nat.lt_succ_of_lt lb)) its2.toArray) hz hTI hTO ⟨h1, p⟩ ⟨h2, p2⟩ (by omega) (by omega) (by omega) fun h' tk hk =>
      ⟨rfl, I.turnedL (t' := tk) (ch := [n + 4, n + 2, n + 3, n, n + 1]) (fun c o hb q => hk c o (fun z => hb (by rw [z]; simp)) (fun z => hb (by rw [z]; simp)) (fun z => hb (by rw [z]; simp)) (fun z => hb (by rw [z]; simp)) q) hf⟩
  self := fun A i s Q E st h => wpAny_pyIter_zip st.1 h
theorem pi_zipB {X : Cx} {e e2 : Expr} {ta : TA} {p pos tpos : Pos} {elts : List Expr} {kk : Nat} (hg : Gl X "zip") (hm : X.mg "zip" = none) (ha : PA X [e, e2] ta)
    (hs : starEach [e, e2] X.env = (false, eval e X.env) :: starEach [e2] X.env) (hp : (backTo pos (starEach [e2] X.env)).any (·.1) = false) :
    PI X (.Tuple elts kk tpos) (.Call (.Name "zip" p) [e, e2] [] pos) (fun σ H R => ta σ H fun vs H1 => ∃ t u a b xs ys, vs = [.ref a, .ref b] ∧ SqB t X.K H1 a xs ∧ SqB u X.K H1 b ys ∧ R (ItzB t u X.K a b) H1) := by
  refine ⟨fun pins s σ H R I h => Call_ (ld_blt I hg hm PyProof.Rows.boot_zip (PyProof.Rows.callWith_type1 (thn (ha.run pos pins s σ H _ I h) fun us s1 ⟨vs, H1, I1, r1, t, u, a, b, xs, ys, ex, hqx, hqy, q⟩ => ?_) hs hp))⟩
  subst ex
  obtain ⟨y1, y2, rfl, ry1, ry2⟩ := vals2 r1
  cases ry1
  cases ry2
  obtain ⟨its, rv, p1, la⟩ := sqB_at I1 hqx
  obtain ⟨its2, rv2, p2, lb⟩ := sqB_at I1 hqy
  refine zip_begins2 (begins_B t a its.toArray) (begins_B u b its2.toArray) p1 p2 fun h' hz hTI hTO g1 g2 hsz hk => wpAny_pyIter_zip hz ?_
  have I2 : Inv X pins σ H1 { s1 with heap := h' } := I1.kept (t' := s1.toks) hk
  refine ⟨s1.heap.objs.size + 4, [s1.heap.objs.size + 4, s1.heap.objs.size + 2, s1.heap.objs.size + 3, s1.heap.objs.size, s1.heap.objs.size + 1], _, _, H1, rfl, I2, turn_zipB t u a b s1.heap.objs.size la lb, ⟨hz, hTI, ⟨_, _, hTO⟩, itB_new g1, itB_new g2⟩, fun c hcm => ?_, q⟩
  have hle : s1.heap.objs.size ≤ c := five_le hcm
  exact I1.fpOk hle (I1.hok.fresh hle)
end Zh

set_option maxHeartbeats 2000000
/-! Zh4: an exception that a clause catches and keeps: try: .. except C as n: m = n. -/
namespace Zh
open PySem PySem.Spec PyProof.Rows L2

/-- a caught exception that lies at a: its class, its dict -/
def KeptX (cls : Value) (d : Option Addr) (a : Addr) : HO := .ext fun h => ∃ (oe : Obj) (vs : Array Value), h.get? a = some oe ∧ Zc cls d oe ∧ oe.data = .fields vs
section
variable {X : Cx} {pins : List (Addr × Obj)} {σ : L2.St} {H : Hp} {s : Shared} {a : Addr} {oe : Obj} {vs : Array Value} {cls : Value} {d : Option Addr}
theorem keptX_own {x : Addr} : KeptX cls d a ≠ .own x := fun z => by
  have z' : HO.ext _ = HO.own x := z
  cases z'
/-- a pinned exception is tracked from here on -/
theorem keep_exc (I : Inv X ((a, oe) :: pins) σ H s) (hz : Zc cls d oe) (hd : oe.data = .fields vs) (n0 : X.s_0.heap.get? a = none) (np : ∀ p ∈ X.pn ++ pins, p.1 ≠ a) : Inv X pins σ (upd H a (KeptX cls d a)) s := by
  obtain ⟨ha, hn, nl, nf, nc⟩ := I.pin (a, oe) (List.mem_append_right _ List.mem_cons_self)
  have ha : s.heap.get? a = some oe := ha
  have hn : H a = none := hn
  have other : ∀ {b : Addr} {o : HO}, H b = some o → b ≠ a := fun {b o} q z => by
    rw [z, hn] at q
    cases q
  have was : ∀ {b : Addr} {o : Obj}, X.s_0.heap.get? b = some o → b ≠ a := fun {b o} q z => by
    rw [z, n0] at q
    cases q
  have cells : ∀ x c, X.env.cells.lookup x = some c → c ≠ a := fun x c e z => by
    obtain ⟨v, o, e1, e2⟩ := I.cell x c e
    rw [z, ha] at e1
    cases e1
    exact nc v e2
  refine ⟨I.ok, I.os, I.bare, ⟨I.base.keep, I.base.slot, fun b o q n hx => ?_, I.base.there, fun b xs q => ?_, fun b o u q => ?_, fun b ps q => ?_⟩, I.loc, I.cell, ?_, fun x c e => ?_, fun p hp => ?_, fun b o q => ?_, I.len⟩
  · rw [upd_ne (was q)]
    exact I.base.free b o q n hx
  · have t := I.base.tups b xs q
    rw [upd_ne (other t)]
    exact t
  · have t := I.base.frzs b o u q
    rw [upd_ne (other t)]
    exact t
  · obtain ⟨m, t⟩ := I.base.tbls b ps q
    exact ⟨m, by rw [upd_ne (other t)]; exact t⟩
  · rw [upd_ne (Ne.symm nl)]
    exact I.free
  · rw [upd_ne (cells x c e)]
    exact I.freeC x c e
  · obtain ⟨p1, p2, p3, p4, p5⟩ := I.pin p (by
      rcases List.mem_append.mp hp with z | z
      · exact List.mem_append_left _ z
      · exact List.mem_append_right _ (List.mem_cons_of_mem _ z))
    exact ⟨p1, by rw [upd_ne (np p hp)]; exact p2, p3, p4, p5⟩
  · by_cases hb : b = a
    · subst hb
      rw [upd_same] at q
      cases q
      exact ⟨⟨oe, vs, ha, hz, hd⟩, ⟨oe, ha⟩, fun _ _ ⟨o, v, q, r⟩ k => ⟨o, v, k o q, r⟩⟩
    · rw [upd_ne hb] at q
      exact (I.hok b o q).stay (fun _ _ _ z => z) (fun c z => by rw [upd_ne (other z)]; exact z) fun c xs z => by rw [upd_ne (other z)]; exact z

/-- what the clause wishes of the exceptions of its body: the name of the clause at i, the name that keeps at j -/
def wKeep (K : PySem.W.Frag) (c : Value) (i j : Nat) (Wout : WX) (D : Ends) : WX := fun cls d σ H =>
  ∃ b, PySem.W.exmOne K cls c = some b ∧ (b = true → ∀ a, H a = none → D.nx (((σ.set i (some (.ref a))).set j (some (.ref a))).set i none) (upd H a (KeptX cls d a))) ∧ (b = false → Wout cls d σ H)
end
section
variable {X : Cx} {x n m : Str} {c : Value} {i j : Nat} {body : List Stmt} {np p1 p2 p3 pos pos' : Pos} {tb : WX → TS} {Wout : WX}
theorem ps_try_keep (hs : X.stack = X.env :: X.outer) (hf : X.env.frame = some X.env.locals) (hex : X.ex = []) (hN : X.N.Nodup) (hi : X.N[i]? = some n) (hj : X.N[j]? = some m) (hln : X.env.kindOf n = some .local) (hlm : X.env.kindOf m = some .local) (hc : Names X x c) (tk : Takes X Wout) (hdn : (n == ("__debug__" : Str)) = false) (hcn : (n == ("__classdict__" : Str)) = false)
    (hb : ∀ (W : WX) (pn : List (Addr × Obj)) (xe : Value → Shared → Prop), Takes (X.tr pn xe) W → PassesOwn (model X.prog X.w) X.A X.env xe → PSs (X.tr pn xe) body (tb W)) :
    PS X (.Try body [.ExceptHandler (some (.Name x np)) (some n) [.Assign [.Name m p1] (.Name n p2) p3] pos'] [] [] pos) (fun D σ H => tb (wKeep X.K c i j Wout D) D σ H) := by
  have gm : Loc X.env.scope m := .inl hlm
  have gn : Loc X.env.scope n := .inl hln
  have suite : ∀ (a : Addr) (oe : Obj) (pn : List (Addr × Obj)), PSs (X.suite a ((a, oe) :: pn)) [.Assign [.Name m p1] (.Name n p2) p3] (fun D σ H => ∃ v, σ[i]? = some (some v) ∧ D.nx (σ.set j (some v)) H) := fun a oe pn => by
    refine ⟨fun pins s σ H D I q => ?_⟩
    refine (pss_cons (ps_set (X := X.suite a ((a, oe) :: pn)) hN hj gm (pe_var (X := X.suite a ((a, oe) :: pn)) hi (.inl hln) hdn hcn) rfl (.inr hlm)) pss_nil).run pins s σ H D I ?_
    exact q
  refine ⟨fun pins s σ H D I h => ?_⟩
  have ok := I.ok
  have fr0 : X.A.frames = some (X.env :: X.outer) := by rw [ok.frames, hs]
  refine wpAny_Try_except ?_
  refine wpAny_mono ((hb (wKeep X.K c i j Wout D) (X.pn ++ pins) (fun e s₁ => wpAny (model X.prog X.w) X.A (noteFrame e X.env) (fun _ s₂ => wpAny (model X.prog X.w) X.A (setFlight e none) (fun _ s₃ =>
    wpAny (model X.prog X.w) X.A (handleBy e X.env [.ExceptHandler (some (.Name x np)) (some n) [.Assign [.Name m p1] (.Name n p2) p3] pos']) (SP X pins D) X.xe s₃) X.xe s₂) X.xe s₁) (fun u s' hx => ?_) PassesOwn.looking).run [] s σ H D (I.toTry _) h) (fun f s1 q => ?_) (fun e s1 q => q)
  · obtain ⟨a, B, sI, pins2, σ2, H2, cls, d, rfl, J0, nb, up, sky, na, os, ag, b, eb, yes, no⟩ := hx
    have J : Inv X pins σ2 H2 sI := J0.ofTry ok
    rw [hs] at sky
    show wpAny (model X.prog X.w) X.A (noteFrame (.ref a) X.env) _ _ _
    refine Sky.land Zc.steady fr0 hf sky fun h3 fl up3 => ?_
    have J3 : Inv X pins σ2 H2 { s' with heap := h3 } := J.landed nb fl.1 (up.trans up3) os ag
    obtain ⟨o3, v3, g3, z3, d3⟩ := fl.there
    have out : a ∉ frs (X.env :: X.outer) := fun hm => by
      obtain ⟨_, o', e', hnf⟩ := fl.2.2.1.mem hm
      rw [g3] at e'
      cases e'
      exact hnf _ d3
    have aL : a ≠ X.env.locals := fun z => out (List.mem_filterMap.mpr ⟨X.env, List.mem_cons_self, by rw [hf, z]⟩)
    have aF : a ∉ X.fs := fun hm => by
      obtain ⟨e, he, q⟩ := List.mem_filterMap.mp hm
      exact out (List.mem_filterMap.mpr ⟨e, List.mem_cons_of_mem _ he, q⟩)
    have notI : sI.heap.get? a = none := by
      cases q : sI.heap.get? a with
      | none => rfl
      | some o =>
        have z := nb a o q (by rw [hs]; exact out)
        rw [fl.2.1] at z
        cases z
    have not0 : X.s_0.heap.get? a = none := by
      cases q : X.s_0.heap.get? a with
      | none => rfl
      | some o =>
        obtain ⟨o', z⟩ := J.base.there a o q (by rw [hex]; exact fun z => nomatch z)
        rw [notI] at z
        cases z
    have noP : ∀ p ∈ X.pn ++ pins, p.1 ≠ a := fun p hp z => by
      have q := (J.pin p hp).1
      rw [z, notI] at q
      cases q
    have S3 := J3.suite g3 d3 na aL aF
    refine wpAny_handleBy_cons (codeAny_handlers_test ?_) (by intro q; cases q)
    have LT : PySem.W.Looks (model X.prog X.w) h3 (typeOf (.ref a)) cls := fun A Q E s k q => wpAny_typeOf_ref (k _ _ g3) (by rw [z3.1]; exact q)
    have LM := PySem.W.exm_one (M := model X.prog X.w) (J3.kIn) LT eb
    have read : ∀ {Q : Value → Shared → Prop} {E : Value → Shared → Prop}, Q c { s' with heap := h3 } → wpAny (model X.prog X.w) (X.A.mark (some (.ref a))) (eval (.Name x np) X.env) Q E { s' with heap := h3 } := fun {Q E} q => by
      obtain ⟨hg, hdbg, hm | ⟨hm, hv, hnn⟩⟩ := hc
      · exact ld_glob (X := X.suite a ((a, o3) :: (X.pn ++ pins))) S3 hg hm q hdbg
      · exact ld_blt (X := X.suite a ((a, o3) :: (X.pn ++ pins))) S3 hg hm hv q hnn hdbg
    refine read (LM.here ?_)
    cases b with
    | true =>
      refine codeAny_handlers_suite_as ?_
      refine HandSPX.lands_againZ fl fun h4 fl4 up4 => ?_
      have J4 : Inv X pins σ2 H2 { s' with heap := h4 } := J.landed nb fl4.1 ((up.trans up3).trans up4) os ag
      obtain ⟨o4, v4, g4, z4, d4⟩ := fl4.there
      have S4 := J4.suite g4 d4 na aL aF
      have li : i < σ2.length := by rw [J.len]; exact (List.getElem?_eq_some_iff.mp hi).1
      refine store_ok (X := X.suite a ((a, o4) :: (X.pn ++ pins))) (v := .ref a) S4 hN hi gn rfl (fun s5 S5 => ?_) (.inr hln)
      refine wpAny_mono ((suite a o4 (X.pn ++ pins)).run [] s5 _ H2 { nx := fun σ' H' => σ' = (σ2.set i (some (.ref a))).set j (some (.ref a)) ∧ H' = H2, rt := fun _ _ => False, bk := fun _ _ => False, ct := fun _ _ => False } S5 ⟨.ref a, List.getElem?_set_self li, rfl, rfl⟩) (fun f s6 q6 => ?_) (fun _ _ z => False.elim z)
      cases f with
      | next =>
        obtain ⟨σ6, H6, S6, e1, e2⟩ := q6
        subst e1 e2
        have P6 : Inv X ((a, o4) :: pins) ((σ2.set i (some (.ref a))).set j (some (.ref a))) H6 s6 :=
          ⟨ok, S6.os, S6.bare, S6.base, S6.loc, S6.cell, S6.free, S6.freeC, fun p hp => S6.pin p (List.mem_append_left _ (by
            rcases List.mem_append.mp hp with z | z
            · exact List.mem_cons_of_mem _ (List.mem_append_left _ z)
            · rcases List.mem_cons.mp z with z | z
              · rw [z]; exact List.mem_cons_self
              · exact List.mem_cons_of_mem _ (List.mem_append_right _ z))), S6.hok, S6.len⟩
        exact gone_ok P6 hN hi hln fun s7 J7 => ⟨_, _, keep_exc J7 z4 d4 not0 noP, yes rfl a na⟩
      | brk =>
        obtain ⟨_, _, _, z⟩ := q6
        exact False.elim z
      | cont =>
        obtain ⟨_, _, _, z⟩ := q6
        exact False.elim z
      | ret u =>
        obtain ⟨_, _, _, _, _, z⟩ := q6
        exact False.elim z
    | false =>
      show wpAny _ X.A (handleBy (.ref a) X.env []) _ _ _
      refine wpAny_handleBy_nil ?_
      obtain ⟨k1, k2, k3, oe, vs, T, oT, ts', he, hz, hd, h1, hr⟩ := id fl
      unfold PySem.passOn
      refine wpAny_bind (wpAny_field he hd h1 ?_)
      rw [if_neg (show ¬ ((Value.ref T == Value.none) = true) from by simp)]
      have fin : wpAny (model X.prog X.w) X.A (setFlight (.ref a) X.env.frame) (fun _ s4 => wpAny (model X.prog X.w) X.A (throw (.ref a) : Sem Flow) (SP X pins D) X.xe s4) X.xe { s' with heap := h3 } := by
        rw [hf]
        refine HandSPX.setFlight_upZ fl fun h4 hh4 up4 => wpAny_throw (tk _ _ ?_)
        exact ⟨a, B, sI, pins, σ2, H2, cls, d, rfl, J, nb, (up.trans up3).trans up4, .inr (.inr (by rw [hs]; exact hh4)), na, os, ag, no rfl⟩
      first
        | exact wpAny_bind (wpAny_pure (wpAny_bind fin))
        | exact wpAny_bind fin
  · cases f with
    | next =>
      obtain ⟨a1, a2, a3, a4⟩ := q
      exact wpAny_execs_nil ⟨a1, a2, a3.ofTry ok, a4⟩
    | brk =>
      obtain ⟨a1, a2, a3, a4⟩ := q
      exact ⟨a1, a2, a3.ofTry ok, a4⟩
    | cont =>
      obtain ⟨a1, a2, a3, a4⟩ := q
      exact ⟨a1, a2, a3.ofTry ok, a4⟩
    | ret u =>
      obtain ⟨a0, a1, a2, a3, a4, a5⟩ := q
      exact ⟨a0, a1, a2, a3.ofTry ok, a4, a5⟩
end
end Zh

set_option maxHeartbeats 2000000
/-! Zh5: error classes whose __init__ hands on to their base class by its name and keeps one thing. -/
namespace Zh
open PySem PySem.Spec PyProof.Rows L2

/-- the base class, without an __init__ of its own -/
structure BaseC (K : PySem.W.Frag) (P : Addr) : Prop where
  sp : PySem.W.specialIn K (.ref P) "__getattribute__" = some (some (.builtin "type.__getattribute__"))
  rd : PySem.W.readsIn K P (.type "type") = true
  fi : PySem.W.findCls K (.ref P) (.type "type") "__init__" = some (.val (.builtin "ValueError.__init__"))
section
variable {X : Cx} {e : Expr} {es : List Expr} {ta : TA} {c f : Str} {P : Addr} {p1 p2 pos : Pos}
/-- Base.__init__(self, ..) -/
theorem pe_binit {pl : Sem Bool} (hg : Gl X c) (hm : X.mg c = some (.ref P)) (hd : (c == ("__debug__" : Str)) = false) (B : BaseC X.K P) (ha : PA X (e :: es) ta)
    (hc : eval (.Call (.Attribute (.Name c p1) "__init__" p2) (e :: es) [] pos) X.env = (do
      let ov ← eval (.Name c p1) X.env
      standAt p2.atName
      let (f, first) ← holding [ov] (getMethod ov "__init__" pl)
      callWith pos f first (backTo pos (starEach (e :: es) X.env)) (backToKw pos (keywordEach [] X.env))))
    (he : starEach (e :: es) X.env = (false, eval e X.env) :: starEach es X.env) (hpl : (backTo pos (starEach es X.env)).any (·.1) = false) :
    PE X (.Call (.Attribute (.Name c p1) "__init__" p2) (e :: es) [] pos) (tVeI X.K ta) := by
  refine ⟨fun pins s σ H Q I h => ?_⟩
  refine PySem.W.methodCall_KW (pl := pl) (ld_glob I hg hm ?_ hd) hc
  refine PySem.W.method_cls I.kIn B.sp (PySem.W.cls_value I.kIn B.rd B.fi rfl ?_)
  show wpAny _ _ (callWith pos (Value.builtin "ValueError.__init__") [] (backTo pos (starEach (e :: es) X.env)) []) _ _ _
  refine PyProof.Rows.callWith_method1 (thn (ha.run pos pins _ σ H _ (I.tok _) h) fun us s1 ⟨vs, H1, I1, r1, a, C, ws, ev, hl, T, ea, q⟩ => ?_) he hpl
  subst ev
  cases r1 with
  | @cons _ u0 _ ur ra rw' =>
    obtain rfl : u0 = Value.ref a := ra
    have hlen : ur.length ≤ sizeLine := by
      rw [← Paired.length rw', sizeLine_eq]
      omega
    exact oinit_ok T I1 ea hlen fun s' J => ⟨.non, H1, J, rfl, q⟩
/-- what such an __init__(self, f) promises -/
def spInit (K : PySem.W.Frag) (f : Str) : Sp := fun vs H Q _ => ∃ (a C : Addr) (y : V), vs = [.ref a, y] ∧ OexC K C ∧ PySem.W.findIn K (.ref C) f = some none ∧ H a = some (exo a C none) ∧
  ∀ dx, H dx = none → dx ≠ a → Q .non (upd (upd H dx (exd dx [(f, y)])) a (exo a C (some dx)))
end
end Zh

/-! Zh6: repr of data where nothing is being shown yet (the law's own frame), and the law's end for a def that leans on that. -/
namespace Zh
open PySem PySem.Spec PyProof.Rows L2 Att

mutual
theorem dp_nodict {K : PySem.W.Frag} {H : Hp} : ∀ (d : PyData) (v : V), Dp K H v d → d.hasDict = false
  | .none, _, _ => rfl
  | .bool _, _, _ => rfl
  | .int _, _, _ => rfl
  | .str _, _, _ => rfl
  | .list ds, _, h => by
    cases h with
    | lst _ q => show PyData.hasDictAll ds = false; exact dp_nodicts ds _ q
  | .tuple ds, _, h => by
    cases h with
    | tup _ q => show PyData.hasDictAll ds = false; exact dp_nodicts ds _ q
  | .dict _, _, h => nomatch h
theorem dp_nodicts {K : PySem.W.Frag} {H : Hp} : ∀ (ds : List PyData) (vs : List V), DpAll K H vs ds → PyData.hasDictAll ds = false
  | [], _, _ => rfl
  | d :: ds, _, h => by
    cases h with
    | cons p q =>
      show (PyData.hasDict d || PyData.hasDictAll ds) = false
      rw [dp_nodict d _ p, dp_nodicts ds _ q]; rfl
end
def rRepr (K : PySem.W.Frag) : List V → Hp → VK → Prop := fun xs H Q => ∃ (v : V) (d : PyData), xs = [v] ∧ Dp K H v d ∧ d.showable = true ∧ d.depth ≤ 64 ∧ d.shown.length ≤ sizeLine ∧ Q (.str d.shown) H
theorem cr_repr {X : Cx} (hu : X.A.units + 65 < cLine) (gd : X.A.guards = some []) : CallR X (.builtin "repr") (rRepr X.K) := by
  intro pins s σ H xs us Q I r h
  obtain ⟨v, d, rfl, dp, sh, de, sz, q⟩ := h
  obtain ⟨u, rfl, ru⟩ := vals1 r
  have nd := dp_nodict d v dp
  obtain ⟨as, rd⟩ := Dp.reads I d v u dp ru
  have heap : ∀ a : Addr, u = .ref a → wpAny (model X.prog X.w) X.A (call (.builtin "repr") [u]) (EP X pins σ Q) X.xe s := by
    rintro a rfl
    exact PySem.repr_of_reads' rd sh (PyData.noDict_hsm nd) gd (by omega) (fun _ _ e => e) (fun h' w tk hk => ⟨.str _, H, I.kept hk, ⟨w, rfl⟩, q⟩) sz
  cases rd with
  | none => exact PySem.P.repr_of_none ⟨.str _, H, I.tok _, ⟨_, rfl⟩, q⟩
  | bool b => exact PySem.P.repr_of_bool ⟨.str _, H, I.tok _, ⟨_, rfl⟩, q⟩
  | int i t => exact PySem.P.repr_of_int (of_decide_eq_true sh) ⟨.str _, H, I.tok _, ⟨_, rfl⟩, q⟩
  | str x t => exact PySem.P.repr_of_str ⟨.str _, H, I.tok _, ⟨_, rfl⟩, q⟩ sz
  | list _ _ _ _ => exact heap _ rfl
  | tuple _ _ _ _ => exact heap _ rfl
  | dict _ _ _ _ _ => cases nd

/-! ### the one call from outside -/
/-- a def's promise for the call that the claim makes: no frame below it, nothing being shown -/
def TopOk (P : Program) (w : World) (K : PySem.W.Frag) (mg : Str → Option Value) (base : Heap) (CX : CXT) (f : Addr) (fd : FuncData) (x : Str) (sp : Sp) : Prop :=
  ∀ (s : Shared) (H : Hp) (u : Value) (v : V) (Q : VK) (E : XK), Env0 P w K mg base callerA [] s H → BindsTo s fd ⟨[u], []⟩ [(x, u)] → RelV v u → sp [v] H Q E →
    codeAny (model P w) callerA (.call (.ref f) ⟨[u], []⟩) (CR CX [] P w H s Q E) s
theorem top_of {CX : CXT} {P : Program} {w : World} {K : PySem.W.Frag} {mg : Str → Option Value} {base : Heap} {f : Addr} {name qual x : Str} {params : Arguments} {body : List Stmt} {scope : Scope} {dV kV doc pm cdv ct oc : Value} {an od : Option Addr}
    {osl : Array (Option Value)} {N : List Str} {sp : Sp} (there : K.lookup f = some ⟨oc, od, .func (PySem.W.fnOf name qual params body scope dV kV doc pm an cdv ct), osl⟩) (code : PySem.W.codeIn K cdv qual = true) (sc : FnScope N [x] scope) (room : Room 1 callerA)
    (go : ∀ (s : Shared) (H : Hp) (v : V) (Q : VK) (E : XK), sp [v] H Q E → ∃ t, PSs (cxOf CX P w K mg base N qual scope f cdv callerA [] s H E) body t ∧ t { nx := fun _ H' => Q .non H', rt := Q } (start N [v]) H) :
    TopOk P w K mg base CX f (PySem.W.fnOf name qual params body scope dV kV doc pm an cdv ct) x sp := by
  intro s H u v Q E en bd ru want
  have stays : ∀ b o, base.get? b = some o → s.heap.get? b = some o := fun b o q => (en.bs b o q).1
  have inK : K.In s.heap := en.mod.kin.keeps stays
  have free := en.mod.nolimit.keeps stays
  have par : ∀ y ∈ [(x, u)], scope.names.lookup y.1 = some .local ∨ (scope.names.lookup y.1 = some .cell ∧ ((cellsFrom (s.heap.objs.size + 1) scope.names []).lookup y.1).isSome = true) := by
    intro y hy
    obtain rfl := List.mem_singleton.mp hy
    exact (sc.par x (List.mem_singleton_self x)).imp id fun q => ⟨q, PySem.W.cellsFrom_some _ _ _ (.inl q)⟩
  refine codeAny_call_function (by have := room.dp; omega) (inK _ _ there) rfl sc.co sc.gen rfl (PySem.W.codeRec_of inK code) (bd _ _ _ _ (wpAny_newFunctionEnv_cells sc.kind par fun env he s1 made => ?_))
  subst he
  refine ⟨free.keeps made.toInCall.keep, codeAny_func ?_⟩
  obtain ⟨t, meaning, holds⟩ := go s H v Q E want
  have J := inv_start (CX := CX) (E := E) (qual := qual) (f := f) (cd := cdv) sc room.hd en (vs := [v]) rfl (.cons ru .nil) made
  refine wpAny_mono (meaning.run [] s1 _ H _ J holds) (fun fl s2 hs => ?_) fun _ _ z => z
  match fl, hs with
  | .ret y, ⟨z, _, H2, J2, r2, q2⟩ => exact ⟨z, H2, J2.os, J2.bare, J2.base, J2.hok, r2, q2⟩
  | .next, ⟨_, H2, J2, q2⟩ => exact ⟨.non, H2, J2.os, J2.bare, J2.base, J2.hok, rfl, q2⟩
  | .brk, ⟨_, _, _, q2⟩ => exact q2.elim
  | .cont, ⟨_, _, _, q2⟩ => exact q2.elim
/-- from an abstract heap in which the script alone may be tracked -/
theorem top_core {P : Program} {w : World} {K : PySem.W.Frag} {mg mb : Str → Option Value} {CX : CXT} {fa a : Addr} {fd : FuncData} {x : Str} {sp : Sp} {s : Shared} {vs : List Value} {ns : List Int} {H : Hp}
    (inK : K.In s.heap) (hm : s.heap.Ns mainGlobals mg) (hb : s.heap.Ns builtinsNs mb) (boot : ∀ x : Str, x ≠ "__name__" → mb x = bootBuiltins x) (free : s.heap.NoLimit) (gens : s.gens = #[])
    (script : s.heap.get? a = some { cls := .type "list", data := .seq vs.toArray })
    (F : ∀ base : Heap, K.In base → base.Ns mainGlobals mg → TopOk P w K mg base CX fa fd x sp) (bd : ∀ u : Value, BindsTo s fd ⟨[u], []⟩ [(x, u)])
    (want : sp [.ref a] H (fun v _ => v = .bl true) fun _ _ _ => False) (noexc : ∀ e s', CX [] H s (fun _ _ _ => False) e s' → False)
    (only : Only H) (ok : HOk P w H s.heap) (alone : ∀ b, b ≠ a → H b = none) (own : H a = none ∨ K.lookup a = none) :
    codeAny (model P w) callerA (.call (.ref fa) ⟨[.ref a], []⟩) (fun r s' => r = .ok (.ret (.bool true)) ∧ OldK s.heap s'.heap ∧ s'.os = s.os ∧ AllBare s'.gens) s := by
  have still : ∀ {b : Addr} {o : Obj}, H b = none → s.heap.get? b = some o → (hidT s.heap H).get? b = some o := fun n e => hidT_get e n
  have names : ∀ {b : Addr} {m : Str → Option Value}, s.heap.Ns b m → (hidT s.heap H).Ns b m := by
    rintro b m ⟨o, es, ep, e, d, r⟩
    refine ⟨o, es, ep, still ?_ e, d, r⟩
    by_cases z : b = a
    · subst z
      rw [script] at e
      cases e
      cases d
    · exact alone b z
  have inB : K.In (hidT s.heap H) := fun b o e => still (by
    by_cases z : b = a
    · subst z
      rcases own with q | q
      · exact q
      · rw [show K.lookup b = some o from e] at q
        cases q
    · exact alone b z) (inK b o e)
  obtain ⟨mc, l1, l2⟩ := free
  have en : Env0 P w K mg (hidT s.heap H) callerA [] s H :=
    { frames := rfl, mod := ⟨inB, names hm, ⟨mb, names hb, boot⟩, ⟨mc, names l1, l2⟩⟩, bs := fun b o e => of_hidT e, bsz := Nat.le_of_eq (hidT_size _ _), funs := trivial, frf := fun b z => absurd z List.not_mem_nil, hok := ok, bare := .of_eq gens }
  refine codeAny_mono (F _ inB (names hm) s H (.ref a) (.ref a) _ _ en (bd _) rfl want) fun r s' h => ?_
  match r, h with
  | .error e, h => exact (noexc e s' h).elim
  | .ok .next, h => exact h.elim
  | .ok .brk, h => exact h.elim
  | .ok .cont, h => exact h.elim
  | .ok (.ret u), ⟨v, H', os, bare, un, ok', rel, eq⟩ =>
    obtain rfl : v = .bl true := eq
    obtain rfl : u = Value.bool true := rel
    refine ⟨rfl, OldK.of_keep fun b o e => ?_, os, bare⟩
    rcases only b with n | ⟨ob, xs, n⟩
    · exact un.keep b o e n (fun z => nomatch z) (fun z => nomatch z)
    · have old := (ok b _ n).1
      rw [e] at old
      cases old
      exact (ok' b _ (un.frzs b _ _ n)).1
/-- the goal that k_head leaves, for a law's def that leans on nothing being shown -/
theorem walk_top {l : PySem.W.OpenLaw} {n : Nat} {q : Program} {loose : List Str} {XP : (Str → Option Value) → Heap → Prop} {YP : World → Heap → Prop} {d : DefRec} {K : Params → PySem.W.Frag} {CX : World → CXT} {sp : World → Sp} {x : Str}
    (most : l.most = some n) (line : n ≤ sizeLine) (plain : d.params.defaults = []) (hY : ∀ (w : World) (h : Heap), YP w h → (K w.params).In h)
    (F : ∀ (w : World) (mg : Str → Option Value) (fa : Addr) (h : Heap), (K w.params).In h → h.Ns mainGlobals mg → mg d.name = some (.ref fa) →
      ∃ fd : FuncData, (∀ (s : Shared) (u : Value), BindsTo s fd ⟨[u], []⟩ [(x, u)]) ∧ ∀ base : Heap, (K w.params).In base → base.Ns mainGlobals mg → TopOk l.prog w (K w.params) mg base (CX w) fa fd x (sp w))
    (want : ∀ (w : World) (H : Hp) (a : Addr) (ns : List Int), ns.length ≤ n → Only H → SqL (K w.params) H a (ns.map V.int) → sp w [.ref a] H (fun v _ => v = .bl true) fun _ _ _ => False)
    (noexc : ∀ (w : World) (H : Hp) (s : Shared) (e : Value) (s' : Shared), CX w [] H s (fun _ _ _ => False) e s' → False) :
    PySem.W.WalkO q loose XP YP l.row.toRowW d [] (fun f vs => PySem.call f vs) := by
  refine Att.attach_call most plain fun w s₀ s₁ mg mb fa o pm cd doc a vs ns G Y _ _ _ hmg script vals few gens => ?_
  have inK := hY w _ Y
  obtain ⟨fd, bd, F⟩ := F w mg fa _ inK G.T.g hmg
  have rv := vals_ints vals
  have short := Nat.le_trans few line
  have core := fun H => top_core (H := H) (ns := ns) inK G.T.g G.T.b G.T.builtins G.T.nolimit gens script F (bd s₁)
  cases own : (K w.params).lookup a with
  | some o =>
    have same := inK a o own
    rw [script] at same
    cases same
    have known : SqL (K w.params) (fun _ => none) a (ns.map V.int) := .inr ⟨_, vs.toArray, _, own, rfl, rfl, rfl, by rw [List.size_toArray, vals.length]; exact short, by simpa using rv⟩
    exact core (fun _ => none) (want w _ a ns few (fun _ => .inl rfl) known) (noexc w _ s₁) (fun _ => .inl rfl) (fun b u z => nomatch z) (fun _ _ => rfl) (.inl rfl)
  | none =>
    let H : Hp := fun b => if b = a then some (.frz { cls := .type "list", data := .seq vs.toArray } (.lst (ns.map V.int))) else none
    have at_a : H a = some (.frz { cls := .type "list", data := .seq vs.toArray } (.lst (ns.map V.int))) := if_pos rfl
    have off : ∀ b, b ≠ a → H b = none := fun b z => if_neg z
    have only : Only H := fun b => (Decidable.em (b = a)).elim (fun z => .inr ⟨{ cls := .type "list", data := .seq vs.toArray }, ns.map V.int, z ▸ at_a⟩) fun z => .inl (off b z)
    have ok : HOk l.prog w H s₁.heap := fun b u e => by
      by_cases z : b = a
      · subst z
        rw [at_a] at e
        cases e
        exact ⟨script, by rw [List.length_map]; exact short, vs, _, rv, script⟩
      · rw [off b z] at e
        cases e
    exact core H (want w H a ns few only (.inl (.inr ⟨_, at_a⟩))) (noexc w H s₁) only ok off (.inr own)
end Zh

/-! Zh7: sorted over data that stand in a tuple. -/
namespace Zh
open PySem PySem.Spec PyProof.Rows L2
section
variable {prog : Program} {w : World} {A : Around} {E : Value → Shared → Prop} {s : Shared}
theorem collect_tup {l : Addr} {vs : List Value} {Q : List Value → Shared → Prop} (hl : s.heap.IsTuple l vs.toArray)
    (h : Q vs { s with heap := (s.heap.push (seqObj "list" #[] 0)).update s.heap.objs.size (Obj.mapSeq (· ++ vs.toArray)) }) (hsz : vs.length ≤ sizeLine) :
    wpAny (model prog w) A (collect (.ref l)) Q E s := by
  obtain ⟨o, ho, hc, n, hd⟩ := id hl
  unfold collect
  refine wpAny_bind (wpAny_runValue (codeAny_builtin entry_proto_collect' ?_))
  show wpAny _ _ (do again (.builtin "list.__iadd__" ⟨[← newList [], .ref l], []⟩)) _ _ s
  refine wpAny_bind (wpAny_newList (wpAny_pure ⟨Code.quiet_builtin _ (by decide +kernel), codeAny_builtin entry_list_iadd' ?_⟩))
  show wpAny _ _ (Builtin.List.listExtendWith (.ref s.heap.objs.size) (.ref l) (.ref s.heap.objs.size)) _ _ { s with heap := s.heap.push (seqObj "list" #[] 0) }
  unfold Builtin.List.listExtendWith
  have ho' : (s.heap.push (seqObj "list" #[] 0)).get? l = some o := Heap.get?_push_of_some _ ho
  refine wpAny_bind (wpAny_typeOf (T := "tuple") ⟨o, ho', hc⟩ ?_)
  have ht : (Value.type "tuple" == Value.type "tuple") = true := by rfl
  rw [if_pos (by rw [ht]; simp)]
  refine wpAny_bind (listItems_at ho' hd ?_)
  refine wpAny_bind (listItems_at (xs := #[]) (n := 0) (Heap.get?_push_size _ rfl) rfl ?_)
  rw [if_neg (by simp)]
  refine wpAny_bind (listUpdate_at (xs := #[]) (n := 0) (Heap.get?_push_size _ rfl) rfl ?_ (Nat.zero_le _) (by show (#[] ++ vs.toArray).size ≤ sizeLine + 1; simp only [Array.size_append, List.size_toArray, List.length_nil]; omega))
  refine wpAny_pure ?_
  show wpAny (model prog w) A (do
      let o ← load s.heap.objs.size
      match o.data with
      | .seq xs _ => pure xs.toList
      | _ => unsupported "internal:collect") Q E { s with heap := (s.heap.push (seqObj "list" #[] 0)).update s.heap.objs.size (Obj.mapSeq (· ++ vs.toArray)) }
  refine wpAny_bind (wpAny_load (get?_update_seq (Heap.get?_push_size _ rfl) _) ?_)
  show wpAny _ _ (pure ((#[] : Array Value) ++ vs.toArray).toList) Q E _
  rw [show ((#[] : Array Value) ++ vs.toArray).toList = vs by simp]
  exact wpAny_pure h
open PySem.W PySem.Calls in
theorem sorted_of_tup {l : Addr} {vs : List Value} {kw : List (Str × Value)} {Q : Value → Shared → Prop} (hl : s.heap.IsTuple l vs.toArray) (hL : vs.length ≤ sizeLine) (ha1 : argsOk "sorted" ⟨[.ref l], kw⟩) (ha2 : ∀ x, argsOk "list.sort" ⟨[.ref x], kw⟩)
    (body : ∀ E' : Value → Shared → Prop, wpAny (model prog w) A.in1.in1 (Builtin.«list.sort» ⟨[.ref (s.heap.objs.size + 1)], kw⟩) (fun f s' => f = .done (.ret .none) ∧ Q (.ref (s.heap.objs.size + 1)) s') E' { s with heap := copyHeap s.heap vs }) :
    wpAny (model prog w) A (call (.builtin "sorted") [.ref l] kw) Q E s := by
  refine call_function_entry_kw kind_sorted plain_sorted entry_sorted ha1 ?_
  unfold Builtin.«sorted»
  refine wpAny_bind (m := checkCount "sorted" 1 1 _) (wpAny_pure ?_)
  refine wpAny_bind (collect_tup hl ?_ hL)
  refine wpAny_bind (wpAny_newList ?_ hL)
  have hsz : ((s.heap.push (seqObj "list" #[] 0)).update s.heap.objs.size (Obj.mapSeq (· ++ vs.toArray))).objs.size = s.heap.objs.size + 1 := by
    rw [Heap.size_update, size_push']
  show wpAny _ _ _ _ _ { s with heap := copyHeap s.heap vs }
  rw [hsz]
  refine wpAny_bind (wpAny_holding (wpAny_call_entry_kw slot_list_sort ⟨_, copyHeap_at s.heap vs, rfl⟩ entry_list_sort ?body (ha2 _)))
  case body =>
    show wpAny (model prog w) A.in1.in1 (Builtin.«list.sort» ⟨[.ref (s.heap.objs.size + 1)], kw⟩) _ _ _
    refine wpAny_mono (body _) (fun f s' hf => ?_) fun _ _ e => e
    obtain ⟨rfl, hq⟩ := hf
    exact ⟨_, rfl, wpAny_pure ⟨_, rfl, hq⟩⟩
open PySem.W (EachIs AllAlike Sortable dataLe) in
theorem sorted_data_tup {β : Type} {vs : List Value} {bs : List β} {enc : β → PyData} {R : Value → β → Prop} {l : Addr} {Q : Value → Shared → Prop} (hl : s.heap.IsTuple l vs.toArray) (e : EachIs R vs bs) (er : EachIs (fun v b => ∃ as, Reads s.heap v (enc b) as) vs bs) (hal : AllAlike (bs.map enc)) (hk : Sortable (bs.map enc)) (hL : bs.length ≤ sizeLine)
    (hu : ∀ b, b ∈ bs → A.units + 2 + (enc b).depth < cLine) (h : ∀ out, out.length = bs.length → EachIs R out (bs.mergeSort (dataLe false enc)) → Q (.ref (s.heap.objs.size + 1)) { s with heap := sortedAll s.heap vs (List.toArray out) }) :
    wpAny (model prog w) A (call (.builtin "sorted") [.ref l]) Q E s := by
  have er' : EachIs (fun v b => ∃ as, Reads (PySem.W.sortingHeap (PySem.W.copyHeap s.heap vs) (s.heap.objs.size + 1) vs) v (enc b) as) vs bs := er.mono fun _ _ ⟨as, r⟩ => ⟨as, PyProof.Rows.Reads.keeps (fun _ _ => PySem.W.sorting_copy_old) r⟩
  have hL' : vs.length ≤ sizeLine := by rw [e.length]; exact hL
  exact sorted_of_tup hl hL' (args_sorted1 _) (fun _ => args_list_sort _) fun _ => PySem.W.list_sort_vals (s := { s with heap := PySem.W.copyHeap s.heap vs }) (PySem.W.copyHeap_at s.heap vs)
    (PySem.W.SortsAt.data (s := { s with heap := PySem.W.sortingHeap (PySem.W.copyHeap s.heap vs) (s.heap.objs.size + 1) vs }) (PySem.W.each_map (R := fun v d => ∃ as, Reads (PySem.W.sortingHeap (PySem.W.copyHeap s.heap vs) (s.heap.objs.size + 1) vs) v d as) enc er') hal hk (PySem.W.bound_map hu)) hL'
    ⟨rfl, h _ (by rw [PySem.W.sortVals_length false rfl]; exact e.length) (PySem.W.sortVals_data false e er' hal)⟩
end
open PySem.W (AllAlike Sortable) in
def rSortedDA (K : PySem.W.Frag) : List V → Hp → VK → Prop := fun vs H Q => ∃ (a : Addr) (xs : List V) (ds : List PyData), vs = [V.ref a] ∧ (SqL K H a xs ∨ SqT K H a xs) ∧ DpAll K H xs ds ∧ AllAlike ds ∧ Sortable ds ∧ (∀ d ∈ ds, d.depth ≤ 60) ∧
  ∀ p, H p = none → Q (.ref p) (upd H p (.lst (sortV (xs.zip ds))))
theorem cr_sortedDA {X : Cx} (hu : X.A.units + 65 < cLine) : CallR X (.builtin "sorted") (rSortedDA X.K) := by
  intro pins s σ H vs us Q I r h
  obtain ⟨a, xs, ds, rfl, hs | hs, hd, al, so, dp, q⟩ := h
  · exact cr_sortedD hu pins s σ H _ us Q I r ⟨a, xs, ds, rfl, hs, hd, al, so, dp, q⟩
  obtain ⟨its, rv, hl, hz⟩ := I.tuple hs
  rw [Vals.ref1 r]
  have hxd := dpAll_len hd
  have hlen : (sortV (xs.zip ds)).length = xs.length := by
    unfold sortV
    rw [List.length_map, List.length_mergeSort, List.length_zip, ← hxd, Nat.min_self]
  refine sorted_data_tup (vs := its) (β := V × PyData) (R := fun u p => RelV p.1 u) (enc := fun p => p.2) (bs := xs.zip ds) (show s.heap.IsTuple a its.toArray from hl) (each_vals rv hxd) (each_reads I rv hd) (by rw [zip_snd hxd]; exact al) (by rw [zip_snd hxd]; exact so) (by rw [List.length_zip, ← hxd, Nat.min_self]; exact hz)
    (fun b hb => ?_) fun out ho eo => ?_
  · have := dp b.2 (List.of_mem_zip (show (b.1, b.2) ∈ xs.zip ds from hb)).2
    omega
  · obtain ⟨ep, he'⟩ := PyProof.Rows.sortedAll_at s.heap its out.toArray
    exact ⟨.ref _, upd H (s.heap.objs.size + 1) (.lst (sortV (xs.zip ds))), I.laid (t' := s.toks) (fun _ _ => PyProof.Rows.sortedAll_old) (Nat.le_succ _) ⟨by rw [hlen]; exact hz, out, ep, vals_each eo, he'⟩, rfl, q _ (I.hok.fresh (Nat.le_succ _))⟩

/-! ### tuples known whole: +, slices -/
section
variable {X : Cx}
def rCatW (K : PySem.W.Frag) : R2 := fun x y H Q => ∃ a b xs ys, x = .ref a ∧ y = .ref b ∧ SqT K H a xs ∧ SqT K H b ys ∧ xs.length + ys.length ≤ sizeLine ∧
  (xs = [] → Q (.ref b) H) ∧ (xs ≠ [] → ys = [] → Q (.ref a) H) ∧ (xs ≠ [] → ys ≠ [] → ∀ p o, o.dict = none → H p = none → Q (.ref p) (upd H p (.frz o (.tup (xs ++ ys)))))
theorem op_catW : OpR X (binaryOp .Add) (rCatW X.K) := by
  intro pins s σ H x y v u Q I rx ry h
  obtain ⟨a, b, xs, ys, rfl, rfl, ha, hb, hz, q0, q1, q2⟩ := h
  by_cases hx : xs = []
  · exact op_catA pins s σ H _ _ v u Q I rx ry ⟨a, b, xs, ys, rfl, rfl, ha, hb, hz, q0, q1, fun z => absurd hx z⟩
  by_cases hy : ys = []
  · exact op_catA pins s σ H _ _ v u Q I rx ry ⟨a, b, xs, ys, rfl, rfl, ha, hb, hz, q0, q1, fun _ z => absurd hy z⟩
  cases rx
  cases ry
  obtain ⟨its, r1, p1, _⟩ := I.tuple ha
  obtain ⟨its2, r2, p2, _⟩ := I.tuple hb
  refine HT.cat_tup p1 p2 (fun z => hx (r1.nil_iff.mp z)) (fun z => ⟨.ref a, H, I, rfl, q1 hx (r2.nil_iff.mp z)⟩) (fun z => ?_) (by rw [← r1.length, ← r2.length]; exact hz)
  refine ⟨.ref s.heap.objs.size, _, I.laid (t' := s.toks) (o := .frz (seqObj "tuple" (its ++ its2).toArray 0) (.tup (xs ++ ys))) (fun b ob q => Heap.get?_push_of_some _ q) (Nat.le_refl _) ?_, rfl, q2 hx hy _ _ rfl (I.hok.fresh (Nat.le_refl _))⟩
  exact ⟨Heap.get?_push_size _ rfl, by rw [List.length_append]; exact hz, _, r1.append r2, IsTup.new _ _⟩
def rSlW (K : PySem.W.Frag) : V → Option Int → Option Int → Hp → VK → Prop := fun x lo hi H Q => ∃ a xs, x = .ref a ∧ SqT K H a xs ∧
  (HT.sIx xs.length 0 lo = 0 ∧ HT.sIx xs.length xs.length hi = xs.length → Q (.ref a) H) ∧ (¬ (HT.sIx xs.length 0 lo = 0 ∧ HT.sIx xs.length xs.length hi = xs.length) → ∀ p o, o.dict = none → H p = none → Q (.ref p) (upd H p (.frz o (.tup (cutV xs lo hi)))))
theorem sl_tupW : SlR X (rSlW X.K) := by
  intro pins s σ H x v vl vu lo hi sl Q I rx hs pl pu h
  obtain ⟨a, xs, rfl, hx, q1, q2⟩ := h
  by_cases hw : HT.sIx xs.length 0 lo = 0 ∧ HT.sIx xs.length xs.length hi = xs.length
  · exact sl_tupA pins s σ H _ v vl vu lo hi sl Q I rx hs pl pu ⟨a, xs, rfl, hx, q1, fun z => absurd hw z⟩
  cases rx
  obtain ⟨its, r, ht, hz⟩ := I.tuple hx
  have hlen : its.toArray.size = xs.length := by rw [List.size_toArray]; exact r.length.symm
  refine ⟨"tuple", _, PyProof.Rows.slot_tuple_getitem.lookup, ht.typeIs, ?_⟩
  refine HT.getItem_tuple_cut ht hs pl pu (by rw [hlen]; exact hw) ?_ (by rw [hlen]; exact hz)
  rw [hlen]
  refine ⟨.ref s.heap.objs.size, _, I.laid (t' := s.toks) (o := .frz { cls := .type "tuple", data := .seq ((its.toArray.toList.drop (HT.sIx xs.length 0 lo)).take (HT.sIx xs.length xs.length hi - HT.sIx xs.length 0 lo)).toArray } (.tup (cutV xs lo hi))) (fun b ob q => Heap.get?_push_of_some _ q) (Nat.le_refl _) ?_, rfl, q2 hw _ _ rfl (I.hok.fresh (Nat.le_refl _))⟩
  exact ⟨Heap.get?_push_size _ rfl, Nat.le_trans (cutV_length xs lo hi) hz, _, (r.drop (HT.sIx xs.length 0 lo)).take (HT.sIx xs.length xs.length hi - HT.sIx xs.length 0 lo), IsTup.new _ _⟩
end
end Zh

/-! Zh8: x[::-1] of a list or a tuple. -/
namespace Zh
open PySem PySem.Spec PyProof.Rows L2
section
variable {prog : Program} {w : World} {A : Around} {E : Value → Shared → Prop} {s : Shared}
theorem places_rev (n : Nat) : Builtin.Slice.slicePlaces ((n : Int) - 1) (-1) (-1) = n := by
  unfold Builtin.Slice.slicePlaces
  rw [if_neg (by decide), show (- -1 : Int) = 1 by decide, Int.ediv_one]
  split <;> omega
theorem slPart {v : Value} {o : Option Int} {Q : Option Int → Shared → Prop} (p : IsPart v o) (h : Q o s) : wpAny (model prog w) A (Builtin.Slice.slicePartIndex v) Q E s := by
  cases p with
  | none => exact slicePart_none h
  | int i t => exact slicePart_int h
theorem sliceApplied_rev {sl : Addr} {vl vu vs : Value} {n : Nat} {Q : Int × Int × Nat → Shared → Prop} (hs : s.heap.IsSliceOf sl vl vu vs) (pl : IsPart vl none) (pu : IsPart vu none) (ps : IsPart vs (some (-1)))
    (h : Q ((n : Int) - 1, -1, n) s) : wpAny (model prog w) A (Builtin.Slice.sliceApplied (.ref sl) (pure (n : Int))) Q E s := by
  obtain ⟨os, hos, hcs, hds⟩ := id hs
  unfold Builtin.Slice.sliceApplied Builtin.Slice.sliceFields
  refine wpAny_bind (wpAny_bind (wpAny_field hos hds (x := vl) rfl (wpAny_bind (wpAny_field hos hds (x := vu) rfl (wpAny_bind (wpAny_field hos hds (x := vs) rfl (wpAny_pure ?_)))))))
  refine wpAny_bind (slPart ps ?_)
  show wpAny _ _ (if ((-1 : Int) == 0) = true then _ else _) _ _ s
  rw [if_neg (by decide)]
  refine wpAny_bind (slPart pl (wpAny_bind (slPart pu (wpAny_bind (wpAny_pure ?_)))))
  show wpAny _ _ (pure ((n : Int) - 1, (-1 : Int), Builtin.Slice.slicePlaces ((n : Int) - 1) (-1) (-1))) _ _ s
  rw [places_rev]
  exact wpAny_pure h
theorem fm_some {α β : Type} {f : α → Option β} {g : α → β} : ∀ {l : List α}, (∀ m ∈ l, f m = some (g m)) → l.filterMap f = l.map g
  | [], _ => rfl
  | a :: l, h => by
    rw [List.filterMap_cons, h a List.mem_cons_self, List.map_cons, fm_some fun m k => h m (List.mem_cons_of_mem _ k)]
theorem pick_rev (xs : Array Value) : ((List.range xs.size).filterMap fun (m : Nat) => xs[((xs.size : Int) - 1 + (m : Int) * -1).toNat]?).toArray = xs.toList.reverse.toArray := by
  have e : ∀ m ∈ List.range xs.size, xs[((xs.size : Int) - 1 + (m : Int) * -1).toNat]? = some (xs.toList.reverse.getD m .none) := fun m hm => by
    have hm := List.mem_range.mp hm
    have hl : xs.toList.length = xs.size := Array.length_toList
    have : ((xs.size : Int) - 1 + (m : Int) * -1).toNat = xs.size - 1 - m := by omega
    rw [this, List.getD_eq_getElem?_getD, List.getElem?_reverse (by omega), hl, ← Array.getElem?_toList, List.getElem?_eq_getElem (by omega)]; rfl
  rw [fm_some e]
  congr 1
  apply List.ext_getElem
  · simp
  · intro i h1 h2
    rw [List.getElem_map, List.getElem_range, List.getD_eq_getElem?_getD, List.getElem?_eq_getElem h2]; rfl
theorem getItem_tuple_rev {t sl : Addr} {items : Array Value} {vl vu vs : Value} {Q : Value → Shared → Prop} (ht : IsTup s.heap t items) (hs : s.heap.IsSliceOf sl vl vu vs) (pl : IsPart vl none) (pu : IsPart vu none) (ps : IsPart vs (some (-1)))
    (h : Q (.ref s.heap.objs.size) { s with heap := s.heap.push { cls := .type "tuple", data := .seq items.toList.reverse.toArray } })
    (hsz : items.size ≤ sizeLine) : wpAny (model prog w) A (getItem (.ref t) (.ref sl)) Q E s := by
  have htake : sizeOk (.seq items.toList.reverse.toArray) := by
    show items.toList.reverse.toArray.size ≤ sizeLine
    rw [List.size_toArray, List.length_reverse, Array.length_toList]
    exact hsz
  obtain ⟨os, hos, hcs, hds⟩ := id hs
  have hTs : s.TypeIs (.ref sl) "slice" := ⟨os, hos, hcs⟩
  unfold getItem
  try with_reducible refine wpAny_holding ?_
  first | refine wpAny_bind (wpAny_pure ?_) | skip
  refine wpAny_bind (wpAny_sequenceKey ht.typeIs (by decide) ?_)
  refine wpAny_bind (wpAny_callSpecial?_slot (name := Str.ofString "__getitem__") ht.typeIs PyProof.Rows.slot_tuple_getitem
    (wpAny_call_entry PyProof.Rows.slot_tuple_getitem ht.typeIs entry_tuple_getitem ?_ (args_tuple_getitem _ _)))
  show wpAny _ _ (Builtin.Tuple.tupleItemsOf (.ref t) >>= _) _ _ s
  refine wpAny_bind (tupleItemsOf_ ht ?_)
  refine wpAny_bind (wpAny_typeOf hTs ?_)
  rw [if_pos (by decide)]
  refine wpAny_bind (sliceApplied_rev hs pl pu ps ?_)
  show wpAny _ _ (if ((((items.size : Nat) : Int) - 1) == 0 && (-1 : Int) == 1 && items.size == items.size) = true then _ else _) _ _ s
  rw [if_neg (by rw [show ((-1 : Int) == 1) = false from rfl, Bool.and_false, Bool.false_and]; decide), pick_rev]
  first
    | exact wpAny_bind (m := Builtin.Tuple.tupleExact _) (wpAny_newObj_type (wpAny_pure ⟨_, rfl, wpAny_pure h⟩) htake)
    | exact wpAny_bind (m := Builtin.Tuple.tupleExact _) (wpAny_newObj_type (wpAny_bind (wpAny_pure (wpAny_pure ⟨_, rfl, wpAny_pure h⟩))) htake)
    | exact wpAny_bind (wpAny_bind (m := Builtin.Tuple.tupleExact _) (wpAny_newObj_type (wpAny_pure (wpAny_pure ⟨_, rfl, wpAny_pure h⟩)) htake))
    | exact wpAny_bind (wpAny_bind (m := Builtin.Tuple.tupleExact _) (wpAny_newObj_type (wpAny_pure ⟨_, rfl, wpAny_pure h⟩) htake))
end
section
variable {X : Cx}
def tRevA (K : PySem.W.Frag) (te : TE) : TE := fun σ H Q => te σ H fun x H1 => ∃ a xs, x = .ref a ∧ ((SqL K H1 a xs ∧ ∀ p, H1 p = none → Q (.ref p) (upd H1 p (.lst xs.reverse))) ∨ (SqT K H1 a xs ∧ ∀ p o, o.dict = none → H1 p = none → Q (.ref p) (upd H1 p (.frz o (.tup xs.reverse)))))
theorem pe_revA {e : Expr} {te : TE} {k : Nat} {p1 p2 p3 pos : Pos} (he : PE X e te) : PE X (.Subscript e (.Slice none none (some (.UnaryOp .USub (.Constant (.int 1) k p1) p2)) p3) pos) (tRevA X.K te) := by
  refine ⟨fun pins s σ H Q I h => ?_⟩
  refine Subscript_ (thn (he.run pins s σ H _ I h) fun v s1 ⟨x, H1, I1, r1, q1⟩ => ?_)
  obtain ⟨a, xs, ex, hx⟩ := q1
  subst ex
  cases r1
  have hst : PO X (some (.UnaryOp .USub (.Constant (.int 1) k p1) p2)) (tPart (tUn (rU fun i => .int (-i)) (tC (.int 1)))) := po_some (pe_un un_neg pe_int)
  refine wpAny_Slice (thn (po_none.run pins s1 σ H1 (fun o H2 => o = none ∧ H2 = H1) I1 ⟨rfl, rfl⟩) fun vl s2 ⟨l, H2, I2, pl, el, e2⟩ => ?_)
  subst el e2
  refine thn (po_none.run pins s2 σ H2 (fun o H3 => o = none ∧ H3 = H2) I2 ⟨rfl, rfl⟩) fun vu s3 ⟨u, H3, I3, pu, eu, e3⟩ => ?_
  subst eu e3
  refine thn (hst.run pins s3 σ H3 (fun o H4 => o = some (-1) ∧ H4 = H3) I3 ⟨1, rfl, -1, rfl, rfl, rfl⟩) fun vs s4 ⟨o, H4, I4, ps, eo, e4⟩ => ?_
  subst eo e4
  have I5 : Inv X pins σ H4 { s4 with heap := s4.heap.push { cls := .type "slice", data := .fields #[vl, vu, vs] } } := I4.kept (t' := s4.toks) fun b ob q => Heap.get?_push_of_some _ q
  show wpAny (model X.prog X.w) X.A (subscriptTail e (.Slice none none (some (.UnaryOp .USub (.Constant (.int 1) k p1) p2)) p3) (.ref a) (.ref s4.heap.objs.size)) (EP X pins σ Q) X.xe { s4 with heap := s4.heap.push { cls := .type "slice", data := .fields #[vl, vu, vs] } }
  rcases hx with ⟨hx, q⟩ | ⟨hx, q⟩
  · obtain ⟨its, r, ht, hz⟩ := I5.list hx
    have hlen := r.length
    refine tail_any (ops := [.ref a, .ref s4.heap.objs.size]) ht.isList.typeIs (PySem.slot_list_getitem.lookup) ?_ (by with_unfolding_all rfl)
    refine wpAny_getItem_list_slice ht.isList (Heap.IsSliceOf.new _ vl vu vs) pl pu ps (by decide) ?_ (by rw [List.size_toArray]; omega)
    rw [PySem.W.krv_pick]
    refine ⟨.ref _, _, I5.laid (t' := s4.toks) (o := .lst xs.reverse) (fun b ob q => Heap.get?_push_of_some _ q) (Nat.le_refl _) ?_, rfl, q _ (I5.hok.fresh (Nat.le_refl _))⟩
    exact ⟨by rw [List.length_reverse]; exact hz, _, 0, r.reverse, Heap.get?_push_size _ rfl⟩
  · obtain ⟨its, r, ht, hz⟩ := I5.tuple hx
    have hlen := r.length
    refine tail_any (ops := [.ref a, .ref s4.heap.objs.size]) ht.typeIs (PyProof.Rows.slot_tuple_getitem.lookup) ?_ (by with_unfolding_all rfl)
    refine getItem_tuple_rev ht (Heap.IsSliceOf.new _ vl vu vs) pl pu ps ?_ (by rw [List.size_toArray]; omega)
    refine ⟨.ref _, _, I5.laid (t' := s4.toks) (o := .frz { cls := .type "tuple", data := .seq its.toArray.toList.reverse.toArray } (.tup xs.reverse)) (fun b ob q => Heap.get?_push_of_some _ q) (Nat.le_refl _) ?_, rfl, q _ _ rfl (I5.hok.fresh (Nat.le_refl _))⟩
    exact ⟨Heap.get?_push_size _ rfl, by rw [List.length_reverse]; exact hz, _, r.reverse, IsTup.new _ _⟩
end
end Zh

/-! ZsA: how the values and the heap of Z lie in the hand layer's: Rep, HR, what may come behind (Nx). -/
namespace Z
open PySem L2

abbrev H0 : Hp := fun _ => none
/-- a tuple; a list that never changes -/
def TL (K : PySem.W.Frag) (H : Hp) (a : Addr) (vs : List V) : Prop := H a = some (.tup vs)
def IL (K : PySem.W.Frag) (H : Hp) (a : Addr) (vs : List V) : Prop := (∃ o, H a = some (.frz o (.lst vs))) ∨ SqL K H0 a vs
theorem TL.sq {K : PySem.W.Frag} {H : Hp} {a : Addr} {vs : List V} (h : TL K H a vs) : SqT K H a vs := .inl (.inl h)
theorem sq0T {K : PySem.W.Frag} {H : Hp} {a : Addr} {vs : List V} (h : SqT K H0 a vs) : SqT K H a vs := by
  rcases h with (h | ⟨o, h⟩) | h
  · cases h
  · cases h
  · exact .inr h
theorem IL.sq {K : PySem.W.Frag} {H : Hp} {a : Addr} {vs : List V} (h : IL K H a vs) : SqL K H a vs := by
  rcases h with ⟨o, h⟩ | (h | ⟨o, h⟩) | h
  · exact .inl (.inr ⟨o, h⟩)
  · cases h
  · cases h
  · exact .inr h

mutual
def Rep (K : PySem.W.Frag) (ρ : List Addr) (H : Hp) : PV → V → Prop
  | .non, v => v = .non
  | .bl b, v => v = .bl b
  | .int i, v => v = .int i
  | .str s, v => v = .str s
  | .tup xs, v => ∃ a vs, v = .ref a ∧ TL K H a vs ∧ Reps K ρ H xs vs
  | .ils xs, v => ∃ a vs, v = .ref a ∧ IL K H a vs ∧ Reps K ρ H xs vs
  | .itp xs, v => ∃ a vs, v = .ref a ∧ Zh.Whole K H a vs ∧ Reps K ρ H xs vs
  | .exc c ns xs, v => ∃ (a C : Addr) (d : Option Addr) (gs : List V), v = .ref a ∧ PySem.W.nsIn K mainGlobals c = some (some (.ref C)) ∧ H a = some (Zh.KeptX (.ref C) d a) ∧ Reps K ρ H xs gs ∧ ns.length = gs.length ∧ ((ns = [] ∧ d = none) ∨ ∃ dd : Addr, d = some dd ∧ H dd = some (.xd (ns.zip gs)))
  | .ref i, v => ∃ a, ρ[i]? = some a ∧ v = .ref a
def Reps (K : PySem.W.Frag) (ρ : List Addr) (H : Hp) : List PV → List V → Prop
  | [], vs => vs = []
  | x :: xs, vs => ∃ v r, vs = v :: r ∧ Rep K ρ H x v ∧ Reps K ρ H xs r
end
def RepD1 (K : PySem.W.Frag) (ρ : List Addr) (H : Hp) : List (Ky × PV) → List (Key × V) → Prop
  | [], kvs => kvs = []
  | (k, x) :: r, kvs => ∃ j v r', kvs = (j, v) :: r' ∧ k = .one j ∧ Rep K ρ H x v ∧ RepD1 K ρ H r r'
def RepD2 (K : PySem.W.Frag) (ρ : List Addr) (H : Hp) : List (Ky × PV) → List (List Key × V) → Prop
  | [], kvs => kvs = []
  | (k, x) :: r, kvs => ∃ j v r', kvs = (j, v) :: r' ∧ k = .many j ∧ Rep K ρ H x v ∧ RepD2 K ρ H r r'
def RepF (K : PySem.W.Frag) (ρ : List Addr) (H : Hp) : List (Str × PV) → List (Str × V) → Prop
  | [], fs => fs = []
  | (f, x) :: r, fs => ∃ v r', fs = (f, v) :: r' ∧ Rep K ρ H x v ∧ RepF K ρ H r r'

/-- what a place of the heap is -/
def RepO (K : PySem.W.Frag) (mg : Str → Option Value) (ρ : List Addr) (H : Hp) (o : Ob) (a : Addr) : Prop := match o with
  | .lst xs => ∃ vs, H a = some (.lst vs) ∧ Reps K ρ H xs vs
  | .dic kvs => (∃ ws, H a = some (.dK ws) ∧ RepD1 K ρ H kvs ws) ∨ ∃ ws, H a = some (.dT ws) ∧ RepD2 K ρ H kvs ws
  | .ins c fs => ∃ C dx gs, mg c = some (.ref C) ∧ H a = some (.ins C dx gs) ∧ RepF K ρ H fs gs
  | .ldc u kvs => H a = some u ∧ ((∃ o ws, u = .frz o (.dK ws) ∧ RepD1 K ρ H kvs ws) ∨ ∃ o ws, u = .frz o (.dT ws) ∧ RepD2 K ρ H kvs ws)

structure HR (K : PySem.W.Frag) (mg : Str → Option Value) (ρ : List Addr) (h : Hep) (H : Hp) : Prop where
  len : ρ.length = h.length
  nd : ρ.Nodup
  ob : ∀ (i : Nat) (o : Ob) (a : Addr), h[i]? = some o → ρ[i]? = some a → RepO K mg ρ H o a

/-- what may come behind -/
structure Nx (ρ : List Addr) (H : Hp) (ρ' : List Addr) (H' : Hp) : Prop where
  pre : ∃ t, ρ' = ρ ++ t
  fr : ∀ a o, H a = some o → a ∉ ρ → H' a = some o
  nw : ∀ a, a ∈ ρ' → a ∉ ρ → H a = none
theorem Nx.refl {ρ : List Addr} {H : Hp} : Nx ρ H ρ H := ⟨⟨[], by simp⟩, fun _ _ h _ => h, fun _ h n => absurd h n⟩
theorem Nx.at {ρ ρ' : List Addr} {H H' : Hp} (n : Nx ρ H ρ' H') {i : Nat} {a : Addr} (e : ρ[i]? = some a) : ρ'[i]? = some a := by
  obtain ⟨t, rfl⟩ := n.pre
  rw [List.getElem?_append_left (List.getElem?_eq_some_iff.mp e).1]
  exact e
theorem Nx.mem {ρ ρ' : List Addr} {H H' : Hp} (n : Nx ρ H ρ' H') {a : Addr} (e : a ∈ ρ) : a ∈ ρ' := by
  obtain ⟨t, rfl⟩ := n.pre
  exact List.mem_append_left _ e
theorem Nx.trans {ρ ρ1 ρ2 : List Addr} {H H1 H2 : Hp} (n : Nx ρ H ρ1 H1) (m : Nx ρ1 H1 ρ2 H2) : Nx ρ H ρ2 H2 := by
  refine ⟨?_, fun a o e h => ?_, fun a e h => ?_⟩
  · obtain ⟨t, rfl⟩ := n.pre
    obtain ⟨u, rfl⟩ := m.pre
    exact ⟨t ++ u, by rw [List.append_assoc]⟩
  · have h1 : a ∉ ρ1 := fun z => by
      have := n.nw a z h
      rw [e] at this
      cases this
    exact m.fr a o (n.fr a o e h) h1
  · by_cases h1 : a ∈ ρ1
    · exact n.nw a h1 h
    · have q := m.nw a e h1
      cases r : H a with
      | none => rfl
      | some o =>
        rw [n.fr a o r h] at q
        cases q

section
variable {K : PySem.W.Frag} {mg : Str → Option Value} {ρ ρ' : List Addr} {h : Hep} {H H' : Hp}
/-- a mutable thing -/
def isMu : HO → Prop
  | .lst _ => True | .dK _ => True | .dT _ => True | .ins _ _ _ => True | .frz _ (.dK _) => True | .frz _ (.dT _) => True | _ => False
theorem HR.mu (r : HR K mg ρ h H) {a : Addr} (e : a ∈ ρ) : ∃ o, H a = some o ∧ isMu o := by
  obtain ⟨i, hi, rfl⟩ := List.getElem_of_mem e
  have hi' : i < h.length := by rw [← r.len]; exact hi
  have q := r.ob i h[i] ρ[i] (List.getElem?_eq_getElem hi') (List.getElem?_eq_getElem hi)
  cases ho : h[i] with
  | lst xs =>
    rw [ho] at q
    obtain ⟨vs, e, _⟩ := q
    exact ⟨_, e, trivial⟩
  | dic kvs =>
    rw [ho] at q
    rcases q with ⟨ws, e, _⟩ | ⟨ws, e, _⟩
    · exact ⟨_, e, trivial⟩
    · exact ⟨_, e, trivial⟩
  | ins c fs =>
    rw [ho] at q
    obtain ⟨C, dx, gs, _, e, _⟩ := q
    exact ⟨_, e, trivial⟩
  | ldc u kvs =>
    rw [ho] at q
    obtain ⟨e, q⟩ := q
    rcases q with ⟨o, ws, rfl, _⟩ | ⟨o, ws, rfl, _⟩
    · exact ⟨_, e, trivial⟩
    · exact ⟨_, e, trivial⟩
theorem HR.fresh (r : HR K mg ρ h H) {p : Addr} (e : H p = none) : p ∉ ρ := fun z => by
  obtain ⟨o, q, _⟩ := r.mu z
  rw [e] at q
  cases q
theorem HR.nomu (r : HR K mg ρ h H) {a : Addr} {o : HO} (e : H a = some o) (n : ¬ isMu o) : a ∉ ρ := fun z => by
  obtain ⟨o', q, m⟩ := r.mu z
  rw [e] at q
  cases q
  exact n m
theorem TL.nx {a : Addr} {vs : List V} (t : TL K H a vs) (r : HR K mg ρ h H) (n : Nx ρ H ρ' H') : TL K H' a vs := by
  exact n.fr a _ t (r.nomu t fun z => z)
theorem IL.nx {a : Addr} {vs : List V} (t : IL K H a vs) (r : HR K mg ρ h H) (n : Nx ρ H ρ' H') : IL K H' a vs := by
  rcases t with ⟨o, t⟩ | t
  · exact .inl ⟨o, n.fr a _ t (r.nomu t fun z => z)⟩
  · exact .inr t

theorem wh_nx {a : Addr} {vs : List V} (t : Zh.Whole K H a vs) (r : HR K mg ρ h H) (n : Nx ρ H ρ' H') : Zh.Whole K H' a vs := by
  rcases t with ⟨o, d, t⟩ | t
  · exact .inl ⟨o, d, n.fr a _ t (r.nomu t fun z => z)⟩
  · exact .inr t

/-- a map of the places, and heaps that keep tuples: what Rep leans on -/
structure Stay (K : PySem.W.Frag) (ρ : List Addr) (H : Hp) (ρ' : List Addr) (H' : Hp) : Prop where
  tl : ∀ a vs, TL K H a vs → TL K H' a vs
  il : ∀ a vs, IL K H a vs → IL K H' a vs
  wl : ∀ a vs, Zh.Whole K H a vs → Zh.Whole K H' a vs
  xl : ∀ a cls d, H a = some (Zh.KeptX cls d a) → H' a = some (Zh.KeptX cls d a)
  xd : ∀ a fs, H a = some (.xd fs) → H' a = some (.xd fs)
  rf : ∀ (i : Nat) (a : Addr), ρ[i]? = some a → ρ'[i]? = some a
theorem HR.stay (r : HR K mg ρ h H) (n : Nx ρ H ρ' H') : Stay K ρ H ρ' H' := ⟨fun a vs t => t.nx r n, fun a vs t => t.nx r n, fun a vs t => wh_nx t r n, fun a cls d t => n.fr a _ t (r.nomu t fun z => z), fun a fs t => n.fr a _ t (r.nomu t fun z => z), fun i a e => n.at e⟩
mutual
theorem Rep.stay (s : Stay K ρ H ρ' H') : ∀ (x : PV) (v : V), Rep K ρ H x v → Rep K ρ' H' x v
  | .non, _, q => q
  | .bl _, _, q => q
  | .int _, _, q => q
  | .str _, _, q => q
  | .tup xs, _, ⟨a, vs, e, t, q⟩ => ⟨a, vs, e, s.tl a vs t, Reps.stay s xs vs q⟩
  | .ils xs, _, ⟨a, vs, e, t, q⟩ => ⟨a, vs, e, s.il a vs t, Reps.stay s xs vs q⟩
  | .itp xs, _, ⟨a, vs, e, t, q⟩ => ⟨a, vs, e, s.wl a vs t, Reps.stay s xs vs q⟩
  | .exc c ns xs, _, ⟨a, C, d, gs, e, n, t, q, l, z⟩ => ⟨a, C, d, gs, e, n, s.xl a _ d t, Reps.stay s xs gs q, l, z.imp (fun y => y) fun ⟨dd, e2, y⟩ => ⟨dd, e2, s.xd dd _ y⟩⟩
  | .ref i, _, ⟨a, e, q⟩ => ⟨a, s.rf i a e, q⟩
theorem Reps.stay (s : Stay K ρ H ρ' H') : ∀ (xs : List PV) (vs : List V), Reps K ρ H xs vs → Reps K ρ' H' xs vs
  | [], _, q => q
  | x :: xs, _, ⟨v, r, e, q, t⟩ => ⟨v, r, e, Rep.stay s x v q, Reps.stay s xs r t⟩
end
theorem RepD1.stay (s : Stay K ρ H ρ' H') : ∀ (xs : List (Ky × PV)) (vs : List (Key × V)), RepD1 K ρ H xs vs → RepD1 K ρ' H' xs vs
  | [], _, q => q
  | (k, x) :: xs, _, ⟨j, v, r, e, e2, q, t⟩ => ⟨j, v, r, e, e2, Rep.stay s x v q, RepD1.stay s xs r t⟩
theorem RepD2.stay (s : Stay K ρ H ρ' H') : ∀ (xs : List (Ky × PV)) (vs : List (List Key × V)), RepD2 K ρ H xs vs → RepD2 K ρ' H' xs vs
  | [], _, q => q
  | (k, x) :: xs, _, ⟨j, v, r, e, e2, q, t⟩ => ⟨j, v, r, e, e2, Rep.stay s x v q, RepD2.stay s xs r t⟩
theorem RepF.stay (s : Stay K ρ H ρ' H') : ∀ (xs : List (Str × PV)) (vs : List (Str × V)), RepF K ρ H xs vs → RepF K ρ' H' xs vs
  | [], _, q => q
  | (f, x) :: xs, _, ⟨v, r, e, q, t⟩ => ⟨v, r, e, Rep.stay s x v q, RepF.stay s xs r t⟩
theorem RepO.stay (s : Stay K ρ H ρ' H') {o : Ob} {a : Addr} (e : H' a = H a) (q : RepO K mg ρ H o a) : RepO K mg ρ' H' o a := by
  cases o with
  | lst xs =>
    obtain ⟨vs, e1, q⟩ := q
    exact ⟨vs, e.trans e1, Reps.stay s xs vs q⟩
  | dic kvs =>
    rcases q with ⟨ws, e1, q⟩ | ⟨ws, e1, q⟩
    · exact .inl ⟨ws, e.trans e1, RepD1.stay s kvs ws q⟩
    · exact .inr ⟨ws, e.trans e1, RepD2.stay s kvs ws q⟩
  | ins c fs =>
    obtain ⟨C, dx, gs, m, e1, q⟩ := q
    exact ⟨C, dx, gs, m, e.trans e1, RepF.stay s fs gs q⟩
  | ldc u kvs =>
    obtain ⟨e1, q⟩ := q
    rcases q with ⟨o, ws, e2, q⟩ | ⟨o, ws, e2, q⟩
    · exact ⟨e.trans e1, .inl ⟨o, ws, e2, RepD1.stay s kvs ws q⟩⟩
    · exact ⟨e.trans e1, .inr ⟨o, ws, e2, RepD2.stay s kvs ws q⟩⟩
theorem Rep.nx {x : PV} {v : V} (q : Rep K ρ H x v) (r : HR K mg ρ h H) (n : Nx ρ H ρ' H') : Rep K ρ' H' x v := Rep.stay (r.stay n) x v q
theorem Reps.nx {xs : List PV} {vs : List V} (q : Reps K ρ H xs vs) (r : HR K mg ρ h H) (n : Nx ρ H ρ' H') : Reps K ρ' H' xs vs := Reps.stay (r.stay n) xs vs q

/-- nothing of ours is touched: a new untracked thing (a tuple) -/
theorem HR.tupl (r : HR K mg ρ h H) {p : Addr} (e : H p = none) (o : HO) : HR K mg ρ h (upd H p o) ∧ Nx ρ H ρ (upd H p o) := by
  have n : Nx ρ H ρ (upd H p o) := ⟨⟨[], by simp⟩, fun a u q _ => by rw [upd_ne (ne_of_none q e)]; exact q, fun a q z => absurd q z⟩
  refine ⟨⟨r.len, r.nd, fun i u a h1 h2 => ?_⟩, n⟩
  refine RepO.stay (r.stay n) ?_ (r.ob i u a h1 h2)
  have hp := r.fresh e
  exact upd_ne fun z => hp (z ▸ List.mem_of_getElem? h2)
/-- a new thing of ours -/
theorem HR.alloc (r : HR K mg ρ h H) {p : Addr} (e : H p = none) {u : HO} {o : Ob} (new : RepO K mg (ρ ++ [p]) (upd H p u) o p) : HR K mg (ρ ++ [p]) (h ++ [o]) (upd H p u) ∧ Nx ρ H (ρ ++ [p]) (upd H p u) := by
  have hp := r.fresh e
  have n : Nx ρ H (ρ ++ [p]) (upd H p u) := ⟨⟨[p], rfl⟩, fun a w q _ => by rw [upd_ne (ne_of_none q e)]; exact q, fun a q z => by
    rcases List.mem_append.mp q with q | q
    · exact absurd q z
    · rw [List.mem_singleton.mp q]; exact e⟩
  refine ⟨⟨by rw [List.length_append, List.length_append, r.len] <;> rfl, ?_, fun i w a h1 h2 => ?_⟩, n⟩
  · rw [List.nodup_append]
    refine ⟨r.nd, by simp, fun a ha b hb => ?_⟩
    rw [List.mem_singleton.mp hb]
    exact fun z => hp (z ▸ ha)
  · by_cases hi : i < h.length
    · rw [List.getElem?_append_left hi] at h1
      rw [List.getElem?_append_left (by rw [r.len]; exact hi)] at h2
      refine RepO.stay (r.stay n) ?_ (r.ob i w a h1 h2)
      exact upd_ne fun z => hp (z ▸ List.mem_of_getElem? h2)
    · have hl : i < (h ++ [o]).length := (List.getElem?_eq_some_iff.mp h1).1
      rw [List.length_append] at hl
      have hi' : i = h.length := by simp at hl; omega
      subst hi'
      rw [List.getElem?_append_right (Nat.le_refl _), Nat.sub_self] at h1
      rw [← r.len, List.getElem?_append_right (Nat.le_refl _), Nat.sub_self] at h2
      cases h1
      cases h2
      exact new
/-- one of ours is written -/
theorem HR.write (r : HR K mg ρ h H) {i : Nat} {a : Addr} (e : ρ[i]? = some a) {u : HO} {o : Ob} (new : RepO K mg ρ (upd H a u) o a) : HR K mg ρ (h.set i o) (upd H a u) ∧ Nx ρ H ρ (upd H a u) := by
  have hm : a ∈ ρ := List.mem_of_getElem? e
  have n : Nx ρ H ρ (upd H a u) := ⟨⟨[], by simp⟩, fun b w q z => by rw [upd_ne (fun y => z (by rw [y]; exact hm) : b ≠ a)]; exact q, fun b q z => absurd q z⟩
  refine ⟨⟨by rw [List.length_set]; exact r.len, r.nd, fun j w b h1 h2 => ?_⟩, n⟩
  by_cases hj : i = j
  · subst hj
    rw [e] at h2
    cases h2
    rw [List.getElem?_set_self (by rw [← r.len]; exact (List.getElem?_eq_some_iff.mp e).1)] at h1
    cases h1
    exact new
  · rw [List.getElem?_set_ne hj] at h1
    refine RepO.stay (r.stay n) ?_ (r.ob j w b h1 h2)
    refine upd_ne fun z => hj ?_
    subst z
    have h3 := (List.getElem?_eq_some_iff.mp e)
    have h4 := (List.getElem?_eq_some_iff.mp h2)
    obtain ⟨l1, e1⟩ := h3
    obtain ⟨l2, e2⟩ := h4
    exact (List.getElem_inj r.nd).mp (e1.trans e2.symm)
theorem HR.get (r : HR K mg ρ h H) {i : Nat} {o : Ob} (e : h[i]? = some o) : ∃ a, ρ[i]? = some a ∧ RepO K mg ρ H o a := by
  have hi : i < ρ.length := by rw [r.len]; exact (List.getElem?_eq_some_iff.mp e).1
  exact ⟨ρ[i], List.getElem?_eq_getElem hi, r.ob i o _ e (List.getElem?_eq_getElem hi)⟩
theorem HR.lst (r : HR K mg ρ h H) {i : Nat} {xs : List PV} (e : h[i]? = some (.lst xs)) : ∃ a vs, ρ[i]? = some a ∧ H a = some (.lst vs) ∧ Reps K ρ H xs vs := by
  obtain ⟨a, e1, vs, e2, q⟩ := r.get e
  exact ⟨a, vs, e1, e2, q⟩

/-! ### lists of values -/
theorem Reps.len : ∀ {xs : List PV} {vs : List V}, Reps K ρ H xs vs → xs.length = vs.length
  | [], _, q => by cases q; rfl
  | _ :: xs, _, ⟨v, r, e, _, t⟩ => by subst e; rw [List.length_cons, List.length_cons, Reps.len t]
theorem Reps.get : ∀ {xs : List PV} {vs : List V} {i : Nat} {x : PV}, Reps K ρ H xs vs → xs[i]? = some x → ∃ v, vs[i]? = some v ∧ Rep K ρ H x v
  | [], _, _, _, _, e => by simp at e
  | y :: ys, _, 0, x, ⟨v, r, e1, q, t⟩, e => by
    subst e1
    simp at e
    subst e
    exact ⟨v, rfl, q⟩
  | y :: ys, _, i + 1, x, ⟨v, r, e1, q, t⟩, e => by
    subst e1
    exact Reps.get (i := i) t (by simpa using e)
theorem Reps.get' : ∀ {xs : List PV} {vs : List V} {i : Nat} {v : V}, Reps K ρ H xs vs → vs[i]? = some v → ∃ x, xs[i]? = some x ∧ Rep K ρ H x v
  | [], _, _, _, q, e => by cases q; simp at e
  | y :: ys, _, 0, x, ⟨v, r, e1, q, t⟩, e => by
    subst e1
    simp at e
    subst e
    exact ⟨y, rfl, q⟩
  | y :: ys, _, i + 1, x, ⟨v, r, e1, q, t⟩, e => by
    subst e1
    exact Reps.get' (i := i) t (by simpa using e)
theorem Reps.app : ∀ {xs ys : List PV} {vs ws : List V}, Reps K ρ H xs vs → Reps K ρ H ys ws → Reps K ρ H (xs ++ ys) (vs ++ ws)
  | [], _, _, _, q, t => by cases q; exact t
  | x :: xs, _, _, _, ⟨v, r, e, q, t⟩, u => by subst e; exact ⟨v, _, rfl, q, Reps.app t u⟩
theorem Reps.one {x : PV} {v : V} (q : Rep K ρ H x v) : Reps K ρ H [x] [v] := ⟨v, [], rfl, q, rfl⟩
theorem Reps.set : ∀ {xs : List PV} {vs : List V} (i : Nat) {x : PV} {v : V}, Reps K ρ H xs vs → Rep K ρ H x v → Reps K ρ H (xs.set i x) (vs.set i v)
  | [], _, _, _, _, q, _ => by cases q; exact rfl
  | y :: ys, _, 0, _, _, ⟨v, r, e, q, t⟩, u => by subst e; exact ⟨_, _, rfl, u, t⟩
  | y :: ys, _, i + 1, _, _, ⟨v, r, e, q, t⟩, u => by subst e; exact ⟨v, _, rfl, q, Reps.set i t u⟩
theorem Reps.drop : ∀ {xs : List PV} {vs : List V} (n : Nat), Reps K ρ H xs vs → Reps K ρ H (xs.drop n) (vs.drop n)
  | _, _, 0, q => q
  | [], _, n + 1, q => by cases q; exact rfl
  | y :: ys, _, n + 1, ⟨v, r, e, q, t⟩ => by subst e; exact Reps.drop n t
theorem Reps.take : ∀ {xs : List PV} {vs : List V} (n : Nat), Reps K ρ H xs vs → Reps K ρ H (xs.take n) (vs.take n)
  | _, _, 0, q => by rw [List.take_zero, List.take_zero]; exact rfl
  | [], _, n + 1, q => by cases q; exact rfl
  | y :: ys, _, n + 1, ⟨v, r, e, q, t⟩ => by subst e; exact ⟨v, _, rfl, q, Reps.take n t⟩
theorem Reps.eraseIdx : ∀ {xs : List PV} {vs : List V} (n : Nat), Reps K ρ H xs vs → Reps K ρ H (xs.eraseIdx n) (vs.eraseIdx n)
  | [], _, _, q => by cases q; exact rfl
  | y :: ys, _, 0, ⟨v, r, e, q, t⟩ => by subst e; exact t
  | y :: ys, _, n + 1, ⟨v, r, e, q, t⟩ => by subst e; exact ⟨v, _, rfl, q, Reps.eraseIdx n t⟩
theorem Reps.dropLast {xs : List PV} {vs : List V} (q : Reps K ρ H xs vs) : Reps K ρ H xs.dropLast vs.dropLast := by
  rw [List.dropLast_eq_take, List.dropLast_eq_take, q.len]
  exact q.take _
theorem Reps.cut {xs : List PV} {vs : List V} (q : Reps K ρ H xs vs) (lo hi : Option Int) : Reps K ρ H (cutL xs lo hi) (cutV vs lo hi) := by
  unfold cutL cutV sIx
  rw [q.len]
  exact (q.drop _).take _
theorem Reps.nil_iff {xs : List PV} {vs : List V} (q : Reps K ρ H xs vs) : xs.isEmpty = vs.isEmpty := by
  cases xs with
  | nil => cases q; rfl
  | cons x r => obtain ⟨v, r', e, _⟩ := q; subst e; rfl
theorem Reps.rep : ∀ {xs : List PV} {vs : List V} (n : Nat), Reps K ρ H xs vs → Reps K ρ H (List.replicate n xs).flatten (List.replicate n vs).flatten
  | _, _, 0, _ => rfl
  | _, _, n + 1, q => by rw [List.replicate_succ, List.replicate_succ, List.flatten_cons, List.flatten_cons]; exact q.app (Reps.rep n q)
theorem Reps.rev : ∀ {xs : List PV} {vs : List V}, Reps K ρ H xs vs → Reps K ρ H xs.reverse vs.reverse
  | [], _, q => by cases q; exact rfl
  | x :: xs, _, ⟨v, r, e, q, t⟩ => by
    subst e
    rw [List.reverse_cons, List.reverse_cons]
    exact (Reps.rev t).app (Reps.one q)
theorem reps_map {α : Type} {f : α → PV} {g : α → V} (hf : ∀ a, Rep K ρ H (f a) (g a)) : ∀ l : List α, Reps K ρ H (l.map f) (l.map g)
  | [] => rfl
  | a :: r => ⟨_, _, rfl, hf a, reps_map hf r⟩
theorem Reps.ints : ∀ {xs : List PV} {vs : List V} {ns : List Int}, Reps K ρ H xs vs → intsOf xs = some ns → vs = ns.map V.int
  | [], _, ns, q, e => by cases q; simp [intsOf] at e; subst e; rfl
  | x :: xs, _, ns, ⟨v, r, e1, q, t⟩, e => by
    subst e1
    cases x with
    | int i =>
      cases h : intsOf xs with
      | none => simp [intsOf, h] at e
      | some ms =>
        simp [intsOf, h] at e
        subst e
        obtain rfl := q
        rw [Reps.ints t h]
        rfl
    | _ => simp [intsOf] at e
theorem Reps.bools : ∀ {xs : List PV} {vs : List V} {ns : List Bool}, Reps K ρ H xs vs → boolsOf xs = some ns → vs = ns.map V.bl
  | [], _, ns, q, e => by cases q; simp [boolsOf] at e; subst e; rfl
  | x :: xs, _, ns, ⟨v, r, e1, q, t⟩, e => by
    subst e1
    cases x with
    | bl i =>
      cases h : boolsOf xs with
      | none => simp [boolsOf, h] at e
      | some ms =>
        simp [boolsOf, h] at e
        subst e
        obtain rfl := q
        rw [Reps.bools t h]
        rfl
    | _ => simp [boolsOf] at e
end
/-! ### data -/
section
mutual
theorem dat_depth (h : Hep) : ∀ (n : Nat) (x : PV) (d : PyData), dat h n x = some d → d.depth ≤ n := fun n x d e => by
  cases x with
  | non => cases n <;> (cases e; exact Nat.zero_le _)
  | bl b => cases n <;> (cases e; exact Nat.zero_le _)
  | int b => cases n <;> (cases e; exact Nat.zero_le _)
  | str b => cases n <;> (cases e; exact Nat.zero_le _)
  | exc c ns vs => cases n <;> cases e
  | tup xs =>
    cases n with
    | zero => cases e
    | succ n =>
      cases q : datAll (dat h n) xs with
      | none => rw [dat, q] at e; cases e
      | some ds => rw [dat, q] at e; cases e; exact seq_depth h n xs ds q
  | itp xs =>
    cases n with
    | zero => cases e
    | succ n =>
      cases q : datAll (dat h n) xs with
      | none => rw [dat, q] at e; cases e
      | some ds => rw [dat, q] at e; cases e; exact seq_depth h n xs ds q
  | ils xs =>
    cases n with
    | zero => cases e
    | succ n =>
      cases q : datAll (dat h n) xs with
      | none => rw [dat, q] at e; cases e
      | some ds => rw [dat, q] at e; cases e; exact seq_depth h n xs ds q
  | ref r =>
    cases n with
    | zero => cases e
    | succ n =>
      rw [dat] at e
      split at e
      · rename_i xs eq
        cases q : datAll (dat h n) xs with
        | none => rw [q] at e; cases e
        | some ds => rw [q] at e; cases e; exact seq_depth h n xs ds q
      · cases e
termination_by n => (n, 0)
theorem seq_depth (h : Hep) (n : Nat) : ∀ (xs : List PV) (ds : List PyData), datAll (dat h n) xs = some ds → PyData.depthAll ds + 1 ≤ n + 1
  | [], ds, e => by cases e; simp [PyData.depthAll]
  | x :: xs, ds, e => by
    cases q1 : dat h n x with
    | none => rw [datAll, q1] at e; cases e
    | some d =>
      cases q2 : datAll (dat h n) xs with
      | none => rw [datAll, q1, q2] at e; cases e
      | some ds' =>
        rw [datAll, q1, q2] at e
        cases e
        have a2 := dat_depth h n x d q1
        have b2 := seq_depth h n xs ds' q2
        simp only [PyData.depthAll]
        omega
termination_by xs => (n, xs.length + 1)
end
theorem dat_shaped {h : Hep} {n : Nat} {x : PV} {d : PyData} (l : n ≤ 64) (e : dat h n x = some d) (c : d.canLay0 = true) : SeqAt.shaped d = true := by
  have b := dat_depth h n x d e
  exact Bool.and_eq_true_iff.mpr ⟨c, decide_eq_true (by omega)⟩
end
end Z

/-! ZsB: Z's expressions are sound: what wE asks is what the hand layer's readings ask. -/
namespace Z
open PySem L2

def XR (K : PySem.W.Frag) (mg : Str → Option Value) (ρ : List Addr) (H : Hp) (x : XV) (cls : Value) (d : Option Addr) : Prop :=
  ∃ C : Addr, PySem.W.nsIn K mainGlobals x.cls = some (some (.ref C)) ∧ cls = .ref C ∧ ((x.fs = [] ∧ d = none) ∨ ∃ (dd : Addr) (gs : List (Str × V)), d = some dd ∧ H dd = some (.xd gs) ∧ dd ∉ ρ ∧ RepF K ρ H x.fs gs)

def KQok (X : Cx) (ρ : List Addr) (H : Hp) (F : KQ) (Q : VK) : Prop :=
  ∀ (r : PV) (h' : Hep) (ρ' : List Addr) (H' : Hp) (v : V), Nx ρ H ρ' H' → HR X.K X.mg ρ' h' H' → Rep X.K ρ' H' r v → F r h' → Q v H'
def KXok (X : Cx) (W : WX) (σ : St) (ρ : List Addr) (H : Hp) (E : KX) : Prop :=
  ∀ (x : XV) (h' : Hep) (ρ' : List Addr) (H' : Hp) (cls : Value) (d : Option Addr), Nx ρ H ρ' H' → HR X.K X.mg ρ' h' H' → XR X.K X.mg ρ' H' x cls d → E x h' → W cls d σ H'
theorem KQok.nx {X : Cx} {ρ ρ' : List Addr} {H H' : Hp} {F : KQ} {Q : VK} (k : KQok X ρ H F Q) (n : Nx ρ H ρ' H') : KQok X ρ' H' F Q := fun r h1 ρ1 H1 v m => k r h1 ρ1 H1 v (n.trans m)
theorem KXok.nx {X : Cx} {W : WX} {σ : St} {ρ ρ' : List Addr} {H H' : Hp} {E : KX} (k : KXok X W σ ρ H E) (n : Nx ρ H ρ' H') : KXok X W σ ρ' H' E := fun x h1 ρ1 H1 c d m => k x h1 ρ1 H1 c d (n.trans m)
theorem KXok.no {X : Cx} {W : WX} {σ : St} {ρ : List Addr} {H : Hp} : KXok X W σ ρ H noX := fun _ _ _ _ _ _ _ _ _ z => z.elim

structure SR (X : Cx) (ρ : List Addr) (σz : Env) (h : Hep) (σ : St) (H : Hp) : Prop where
  hr : HR X.K X.mg ρ h H
  len : σz.length = σ.length
  sl : ∀ (i : Nat) (x : PV), σz[i]? = some (some x) → ∃ v, σ[i]? = some (some v) ∧ Rep X.K ρ H x v
theorem SR.nx {X : Cx} {ρ ρ' : List Addr} {σz : Env} {h h' : Hep} {σ : St} {H H' : Hp} (s : SR X ρ σz h σ H) (n : Nx ρ H ρ' H') (r : HR X.K X.mg ρ' h' H') : SR X ρ' σz h' σ H' :=
  ⟨r, s.len, fun i x e => let ⟨v, e1, q⟩ := s.sl i x e; ⟨v, e1, q.nx s.hr n⟩⟩
theorem SR.set {X : Cx} {ρ : List Addr} {σz : Env} {h : Hep} {σ : St} {H : Hp} (s : SR X ρ σz h σ H) (i : Nat) {x : PV} {v : V} (q : Rep X.K ρ H x v) : SR X ρ (σz.set i (some x)) h (σ.set i (some v)) H := by
  refine ⟨s.hr, by rw [List.length_set, List.length_set]; exact s.len, fun j y e => ?_⟩
  by_cases hj : i = j
  · subst hj
    by_cases hl : i < σz.length
    · rw [List.getElem?_set_self hl] at e
      cases e
      exact ⟨v, List.getElem?_set_self (by rw [← s.len]; exact hl), q⟩
    · rw [List.getElem?_eq_none (by rw [List.length_set]; omega)] at e
      cases e
  · rw [List.getElem?_set_ne hj] at e ⊢
    exact s.sl j y e
theorem SR.wipe {X : Cx} {ρ : List Addr} {σz : Env} {h : Hep} {σ : St} {H : Hp} (s : SR X ρ σz h σ H) : ∀ vs : List Nat, SR X ρ (wipeZ σz vs) h (L2.wipe σ vs) H
  | [] => s
  | v :: vs => by
    have ih := SR.wipe s vs
    show SR X ρ ((wipeZ σz vs).set v none) h ((L2.wipe σ vs).set v none) H
    refine ⟨s.hr, by rw [List.length_set, List.length_set]; exact ih.len, fun j y e => ?_⟩
    by_cases hj : v = j
    · subst hj
      by_cases hl : v < (wipeZ σz vs).length
      · rw [List.getElem?_set_self hl] at e
        cases e
      · rw [List.getElem?_eq_none (by rw [List.length_set]; omega)] at e
        cases e
    · rw [List.getElem?_set_ne hj] at e ⊢
      exact ih.sl j y e

/-! ### readings made of Z's -/
abbrev WE := Env → Hep → KQ → KX → Prop
def LE (X : Cx) (W : WX) (w : WE) : TE := fun σ H Q => ∃ (ρ : List Addr) (σz : Env) (h : Hep) (F : KQ) (E : KX), SR X ρ σz h σ H ∧ KQok X ρ H F Q ∧ KXok X W σ ρ H E ∧ w σz h F E
def LT (X : Cx) (W : WX) (w : Env → Hep → KB → KX → Prop) : TT := fun σ H Q => ∃ (ρ : List Addr) (σz : Env) (h : Hep) (F : KB) (E : KX), SR X ρ σz h σ H ∧
  (∀ (b : Bool) (h' : Hep) (ρ' : List Addr) (H' : Hp), Nx ρ H ρ' H' → HR X.K X.mg ρ' h' H' → F b h' → Q b H') ∧ KXok X W σ ρ H E ∧ w σz h F E
def LA (X : Cx) (W : WX) (w : Env → Hep → (List PV → Hep → Prop) → KX → Prop) : TA := fun σ H Q => ∃ (ρ : List Addr) (σz : Env) (h : Hep) (F : List PV → Hep → Prop) (E : KX), SR X ρ σz h σ H ∧
  (∀ (xs : List PV) (h' : Hep) (ρ' : List Addr) (H' : Hp) (vs : List V), Nx ρ H ρ' H' → HR X.K X.mg ρ' h' H' → Reps X.K ρ' H' xs vs → F xs h' → Q vs H') ∧ KXok X W σ ρ H E ∧ w σz h F E
def LO (X : Cx) (W : WX) (w : Env → Hep → (Option Int → Hep → Prop) → KX → Prop) : TO := fun σ H Q => ∃ (ρ : List Addr) (σz : Env) (h : Hep) (F : Option Int → Hep → Prop) (E : KX), SR X ρ σz h σ H ∧
  (∀ (o : Option Int) (h' : Hep) (ρ' : List Addr) (H' : Hp), Nx ρ H ρ' H' → HR X.K X.mg ρ' h' H' → F o h' → Q o H') ∧ KXok X W σ ρ H E ∧ w σz h F E

section
variable {X : Cx} {W : WX} {e a b c : Expr} {es : List Expr}
theorem pe_imp {t t' : TE} (h : PE X e t) (k : ∀ σ H Q, t' σ H Q → t σ H Q) : PE X e t' := ⟨fun pins s σ H Q I q => h.run pins s σ H Q I (k _ _ _ q)⟩
theorem pt_imp {t t' : TT} (h : PT X e t) (k : ∀ σ H Q, t' σ H Q → t σ H Q) : PT X e t' := ⟨fun pins s σ H Q I q => h.run pins s σ H Q I (k _ _ _ q)⟩
theorem pw_imp {t t' : TT} (h : PW X e t) (k : ∀ σ H Q, t' σ H Q → t σ H Q) : PW X e t' := ⟨fun wh pins s σ H Q I q => h.run wh pins s σ H Q I (k _ _ _ q)⟩
theorem pa_imp {t t' : TA} (h : PA X es t) (k : ∀ σ H Q, t' σ H Q → t σ H Q) : PA X es t' := ⟨fun pos pins s σ H Q I q => h.run pos pins s σ H Q I (k _ _ _ q)⟩

/-! ### constants and names -/
theorem ze_var {i : Nat} {x : Str} {pos : Pos} (hN : X.N[i]? = some x) (hv : Vis X.env.scope x) (hd : (x == ("__debug__" : Str)) = false) (hcd : (x == ("__classdict__" : Str)) = false) (Γ : List Spec) : PE X (.Name x pos) (LE X W (wE Γ (.var i))) := by
  refine pe_imp (pe_var hN hv hd hcd) fun σ H Q ⟨ρ, σz, h, F, E, s, kq, kx, w⟩ => ?_
  unfold wE at w
  split at w
  · rename_i v e
    obtain ⟨u, e1, q⟩ := s.sl i v e
    exact ⟨u, e1, kq v h ρ H u Nx.refl s.hr q w⟩
  · exact w.elim
theorem ze_c {t : V} {v : PV} {Γ : List Spec} {x : Ex} (he : PE X e (tC t)) (hw : ∀ σz h F E, wE Γ x σz h F E → F v h) (hr : ∀ ρ H, Rep X.K ρ H v t) : PE X e (LE X W (wE Γ x)) :=
  pe_imp he fun σ H Q ⟨ρ, σz, h, F, E, s, kq, kx, w⟩ => kq v h ρ H t Nx.refl s.hr (hr ρ H) (hw σz h F E w)

/-! ### two in a row -/
theorem le_two {wa : WE} {wb : WE} {op : PV → PV → Hep → KQ → Prop} {r : R2}
    (ho : ∀ (ρ : List Addr) (h : Hep) (H : Hp) (x y : PV) (v u : V) (F : KQ) (Q : VK), HR X.K X.mg ρ h H → Rep X.K ρ H x v → Rep X.K ρ H y u → KQok X ρ H F Q → op x y h F → r v u H Q)
    (σ : St) (H : Hp) (Q : VK) (q : LE X W (fun σz h F E => wa σz h (fun x h1 => wb σz h1 (fun y h2 => op x y h2 F) E) E) σ H Q) : tOp r (LE X W wa) (LE X W wb) σ H Q := by
  obtain ⟨ρ, σz, h, F, E, s, kq, kx, w⟩ := q
  refine ⟨ρ, σz, h, _, E, s, fun x h1 ρ1 H1 v n1 r1 p1 w1 => ?_, kx, w⟩
  refine ⟨ρ1, σz, h1, _, E, s.nx n1 r1, fun y h2 ρ2 H2 u n2 r2 p2 w2 => ?_, kx.nx n1, w1⟩
  exact ho ρ2 h2 H2 x y v u F Q r2 (p1.nx r1 n2) p2 (kq.nx (n1.trans n2)) w2

/-! ### binary operators, by values -/
theorem big_eq : big = sizeLine := sizeLine_eq.symm
/-- what is left where values are known -/
def LR2 (X : Cx) (op : PV → PV → Hep → KQ → Prop) : R2 := fun v u H Q => ∃ (ρ : List Addr) (h : Hep) (x y : PV) (F : KQ), HR X.K X.mg ρ h H ∧ Rep X.K ρ H x v ∧ Rep X.K ρ H y u ∧ KQok X ρ H F Q ∧ op x y h F
theorem opr_imp {f : Value → Value → Sem Value} {r r' : R2} (h : OpR X f r) (k : ∀ v u H Q, r' v u H Q → r v u H Q) : OpR X f r' := fun pins s σ H x y v u Q I rx ry q => h pins s σ H x y v u Q I rx ry (k _ _ _ _ q)
theorem getL_some {h : Hep} {r : Nat} {F : List PV → Prop} (q : getL h r F) : ∃ xs, h[r]? = some (.lst xs) ∧ F xs := by
  unfold getL at q
  split at q
  · exact ⟨_, by assumption, q⟩
  · exact q.elim
/-- a fresh list -/
theorem KQok.newL {ρ : List Addr} {h : Hep} {H : Hp} {F : KQ} {Q : VK} (kq : KQok X ρ H F Q) (r : HR X.K X.mg ρ h H) {xs : List PV} {vs : List V} (q : Reps X.K ρ H xs vs) (w : F (.ref h.length) (h ++ [.lst xs])) {p : Addr} (hp : H p = none) : Q (.ref p) (upd H p (.lst vs)) := by
  have al := fun (u : HO) => (r.tupl hp u).2
  have n : Nx ρ H (ρ ++ [p]) (upd H p (.lst vs)) := ⟨⟨[p], rfl⟩, fun a w q _ => by rw [upd_ne (ne_of_none q hp)]; exact q, fun a q z => by
    rcases List.mem_append.mp q with q | q
    · exact absurd q z
    · rw [List.mem_singleton.mp q]; exact hp⟩
  obtain ⟨r1, n1⟩ := r.alloc hp (u := .lst vs) (o := .lst xs) ⟨vs, upd_same, q.nx r n⟩
  exact kq (.ref h.length) _ _ _ _ n1 r1 ⟨p, by rw [← r.len]; simp, rfl⟩ w
/-- a fresh tuple -/
theorem KQok.newT {ρ : List Addr} {h : Hep} {H : Hp} {F : KQ} {Q : VK} (kq : KQok X ρ H F Q) (r : HR X.K X.mg ρ h H) {xs : List PV} {vs : List V} (q : Reps X.K ρ H xs vs) (w : F (.tup xs) h) {p : Addr} (hp : H p = none) : Q (.ref p) (upd H p (.tup vs)) := by
  obtain ⟨r1, n1⟩ := r.tupl hp (.tup vs)
  exact kq (.tup xs) _ _ _ _ n1 r1 ⟨p, vs, rfl, upd_same, q.nx r n1⟩ w
theorem KQok.newW {ρ : List Addr} {h : Hep} {H : Hp} {F : KQ} {Q : VK} (kq : KQok X ρ H F Q) (r : HR X.K X.mg ρ h H) {xs : List PV} {vs : List V} (q : Reps X.K ρ H xs vs) {o : Obj} (d : o.dict = none) (w : F (.itp xs) h) {p : Addr} (hp : H p = none) : Q (.ref p) (upd H p (.frz o (.tup vs))) := by
  obtain ⟨r1, n1⟩ := r.tupl hp (.frz o (.tup vs))
  exact kq (.itp xs) _ _ _ _ n1 r1 ⟨p, vs, rfl, .inl ⟨o, d, upd_same⟩, q.nx r n1⟩ w
theorem KQok.here {ρ : List Addr} {h : Hep} {H : Hp} {F : KQ} {Q : VK} (kq : KQok X ρ H F Q) (r : HR X.K X.mg ρ h H) {x : PV} {v : V} (q : Rep X.K ρ H x v) (w : F x h) : Q v H := kq _ _ _ _ _ Nx.refl r q w
theorem KQok.int {ρ : List Addr} {h : Hep} {H : Hp} {F : KQ} {Q : VK} (kq : KQok X ρ H F Q) (r : HR X.K X.mg ρ h H) {i : Int} (w : F (.int i) h) : Q (.int i) H := kq.here r (x := .int i) rfl w
theorem KQok.str {ρ : List Addr} {h : Hep} {H : Hp} {F : KQ} {Q : VK} (kq : KQok X ρ H F Q) (r : HR X.K X.mg ρ h H) {i : Str} (w : F (.str i) h) : Q (.str i) H := kq.here r (x := .str i) rfl w
theorem KQok.bl {ρ : List Addr} {h : Hep} {H : Hp} {F : KQ} {Q : VK} (kq : KQok X ρ H F Q) (r : HR X.K X.mg ρ h H) {i : Bool} (w : F (.bl i) h) : Q (.bl i) H := kq.here r (x := .bl i) rfl w
theorem KQok.non {ρ : List Addr} {h : Hep} {H : Hp} {F : KQ} {Q : VK} (kq : KQok X ρ H F Q) (r : HR X.K X.mg ρ h H) (w : F .non h) : Q .non H := kq.here r (x := .non) rfl w

theorem or_bin (o : Operator) : OpR X (binaryOp o) (LR2 X (binW o)) := by
  intro pins s σ H x y v u Q I rx ry q
  obtain ⟨ρ, h, x', y', F, r, p1, p2, kq, w⟩ := q
  unfold binW at w
  split at w
  · rename_i i j
    obtain rfl := p1
    obtain rfl := p2
    cases o with
    | Add => exact op_add pins s σ H _ _ v u Q I rx ry ⟨i, j, rfl, rfl, kq.int r w⟩
    | Sub => exact op_sub pins s σ H _ _ v u Q I rx ry ⟨i, j, rfl, rfl, kq.int r w⟩
    | Mult =>
      obtain ⟨c, w⟩ : mulOk i j ∧ F (.int (i * j)) h := w
      have q := kq.int r w
      rcases c with c | c | c
      · exact op_mul pins s σ H _ _ v u Q I rx ry ⟨i, j, rfl, rfl, .inl c, q⟩
      · exact op_mul pins s σ H _ _ v u Q I rx ry ⟨i, j, rfl, rfl, .inr c, q⟩
      · exact op_mulW pins s σ H _ _ v u Q I rx ry ⟨i, j, rfl, rfl, c, q⟩
    | FloorDiv =>
      obtain ⟨c, w⟩ : divOk j ∧ F (.int (i / j)) h := w
      exact op_fdivW pins s σ H _ _ v u Q I rx ry ⟨i, j, rfl, rfl, c, kq.int r w⟩
    | Mod =>
      obtain ⟨c, w⟩ : 0 < j ∧ F (.int (i % j)) h := w
      exact op_mod pins s σ H _ _ v u Q I rx ry ⟨i, j, rfl, rfl, c, kq.int r w⟩
    | Pow =>
      obtain ⟨c, w⟩ : powOk i j ∧ F (.int (i ^ j.toNat)) h := w
      exact op_pow pins s σ H _ _ v u Q I rx ry ⟨i, j, rfl, rfl, c, kq.int r w⟩
    | LShift =>
      obtain ⟨c, w⟩ : powOk i j ∧ F (.int (i * 2 ^ j.toNat)) h := w
      exact op_shl pins s σ H _ _ v u Q I rx ry ⟨i, j, rfl, rfl, c, kq.int r w⟩
    | RShift =>
      obtain ⟨c, w⟩ : 0 ≤ j ∧ F (.int (i / 2 ^ j.toNat)) h := w
      exact op_shr pins s σ H _ _ v u Q I rx ry ⟨i, j, rfl, rfl, c, kq.int r w⟩
    | BitAnd => exact op_and pins s σ H _ _ v u Q I rx ry ⟨i, j, rfl, rfl, kq.int r w⟩
    | _ => exact False.elim w
  · rename_i i j
    obtain ⟨rfl, z, w⟩ := w
    obtain rfl := p1
    obtain rfl := p2
    exact op_add_str pins s σ H _ _ v u Q I rx ry ⟨i, j, rfl, rfl, by rw [← big_eq]; exact z, kq.str r w⟩
  · rename_i z k
    obtain ⟨rfl, k0, k1, hl, w⟩ := w
    obtain rfl := p1
    obtain rfl := p2
    exact Zh.op_rep_str pins s σ H _ _ v u Q I rx ry ⟨z, k, rfl, rfl, k0, k1, hl, kq.str r w⟩
  · rename_i xs ys
    obtain ⟨rfl, z, w⟩ := w
    obtain ⟨a1, vs, rfl, t1, q1⟩ := p1
    obtain ⟨a2, us, rfl, t2, q2⟩ := p2
    refine op_catA pins s σ H _ _ v u Q I rx ry ⟨a1, a2, vs, us, rfl, rfl, t1.sq, t2.sq, by rw [← big_eq, ← q1.len, ← q2.len]; exact z, fun z => ?_, fun _ z => ?_, fun _ _ p hp => ?_⟩
    · subst z
      have : xs = [] := List.length_eq_zero_iff.mp q1.len
      subst this
      exact kq.here r (x := .tup ys) ⟨a2, us, rfl, t2, q2⟩ w
    · subst z
      have : ys = [] := List.length_eq_zero_iff.mp q2.len
      subst this
      rw [List.append_nil] at w
      exact kq.here r (x := .tup xs) ⟨a1, vs, rfl, t1, q1⟩ w
    · exact kq.newT r (q1.app q2) w hp
  · rename_i xs ys
    obtain ⟨rfl, z, w⟩ := w
    obtain ⟨a1, vs, rfl, t1, q1⟩ := p1
    obtain ⟨a2, us, rfl, t2, q2⟩ := p2
    refine Zh.op_catW pins s σ H _ _ v u Q I rx ry ⟨a1, a2, vs, us, rfl, rfl, t1.sq, t2.sq, by rw [← big_eq, ← q1.len, ← q2.len]; exact z, fun z => ?_, fun _ z => ?_, fun _ _ p o d hp => ?_⟩
    · subst z
      have : xs = [] := List.length_eq_zero_iff.mp q1.len
      subst this
      exact kq.here r (x := .itp ys) ⟨a2, us, rfl, t2, q2⟩ w
    · subst z
      have : ys = [] := List.length_eq_zero_iff.mp q2.len
      subst this
      rw [List.append_nil] at w
      exact kq.here r (x := .itp xs) ⟨a1, vs, rfl, t1, q1⟩ w
    · exact kq.newW r (q1.app q2) d w hp
  · rename_i i j
    obtain ⟨rfl, w⟩ := w
    obtain ⟨xs, e1, w⟩ := getL_some w
    obtain ⟨ys, e2, z, w⟩ := getL_some w
    obtain ⟨a1, f1, rfl⟩ := p1
    obtain ⟨a2, f2, rfl⟩ := p2
    obtain ⟨b1, vs, g1, k1, q1⟩ := r.lst e1
    obtain ⟨b2, us, g2, k2, q2⟩ := r.lst e2
    rw [f1] at g1; cases g1
    rw [f2] at g2; cases g2
    refine op_cat pins s σ H _ _ v u Q I rx ry ⟨a1, a2, vs, us, rfl, rfl, k1, k2, by rw [← big_eq, ← q1.len, ← q2.len]; exact z, fun p hp => ?_⟩
    exact kq.newL r (q1.app q2) w hp
  · rename_i i k
    obtain ⟨rfl, w⟩ := w
    obtain ⟨xs, e1, z1, z2, z, w⟩ := getL_some w
    obtain ⟨a1, f1, rfl⟩ := p1
    obtain rfl := p2
    obtain ⟨b1, vs, g1, k1, q1⟩ := r.lst e1
    rw [f1] at g1; cases g1
    refine op_rep pins s σ H _ _ v u Q I rx ry ⟨a1, k, vs, rfl, rfl, k1, z1, z2, by rw [← big_eq, ← q1.len]; exact z, fun p hp => ?_⟩
    exact kq.newL r (q1.rep _) w hp
  · exact w.elim
end
end Z

/-! ZsC: operations by values: truth, ==, in, order, subscripts, slices, stores, dicts. -/
namespace Z
open PySem L2
section
variable {X : Cx} {W : WX} {ρ ρ' : List Addr} {h h' : Hep} {H H' : Hp} {x y z : PV} {v u w : V}

/-! ### truth -/
theorem tru_of {K : Bool → Prop} (r : HR X.K X.mg ρ h H) (p : Rep X.K ρ H x v) (q : truW h x K) : ∃ k, TruV X.K v H k ∧ K k := by
  cases x with
  | non => obtain rfl := p; exact ⟨false, rfl, q⟩
  | bl b => obtain rfl := p; exact ⟨b, rfl, q⟩
  | int i => obtain rfl := p; exact ⟨_, rfl, q⟩
  | exc c ns xs => exact q.elim
  | str s =>
    obtain rfl := p
    obtain ⟨z, q⟩ : s.length ≤ big ∧ K ((s.length : Int) != 0) := q
    exact ⟨_, ⟨by rw [← big_eq]; exact z, rfl⟩, q⟩
  | tup xs =>
    obtain ⟨a, vs, rfl, t, ps⟩ := p
    exact ⟨_, .inr (.inl ⟨vs, t.sq, rfl⟩), by rw [← ps.nil_iff]; exact q⟩
  | itp xs =>
    obtain ⟨a, vs, rfl, t, ps⟩ := p
    exact ⟨_, .inr (.inl ⟨vs, t.sq, rfl⟩), by rw [← ps.nil_iff]; exact q⟩
  | ils xs =>
    obtain ⟨a, vs, rfl, t, ps⟩ := p
    exact ⟨_, .inl ⟨vs, t.sq, rfl⟩, by rw [← ps.nil_iff]; exact q⟩
  | ref i =>
    obtain ⟨xs, e, q⟩ := getL_some (show getL h i fun xs => K (!xs.isEmpty) from q)
    obtain ⟨a, e1, rfl⟩ := p
    obtain ⟨b, vs, e2, k, ps⟩ := r.lst e
    rw [e1] at e2; cases e2
    exact ⟨_, .inl ⟨vs, SqL.of k, rfl⟩, by rw [← ps.nil_iff]; exact q⟩

/-! ### data -/
theorem dat_all (f : PV → Option PyData) (hf : ∀ (x : PV) (v : V) (d : PyData), Rep X.K ρ H x v → f x = some d → Dp X.K H v d) :
    ∀ (xs : List PV) (vs : List V) (ds : List PyData), Reps X.K ρ H xs vs → datAll f xs = some ds → DpAll X.K H vs ds
  | [], vs, ds, p, e => by
    cases p
    simp only [datAll, Option.some.injEq] at e
    subst e
    exact .nil
  | x :: xs, vs, ds, ⟨v, r, e1, p, ps⟩, e => by
    subst e1
    unfold datAll at e
    split at e
    · rename_i d ds' h1 h2
      cases e
      exact .cons (hf x v d p h1) (dat_all f hf xs r ds' ps h2)
    · cases e
theorem dat_dp (r : HR X.K X.mg ρ h H) : ∀ (n : Nat) (x : PV) (v : V) (d : PyData), Rep X.K ρ H x v → dat h n x = some d → Dp X.K H v d := by
  intro n
  induction n with
  | zero =>
    intro x v d p e
    cases x with
    | non => obtain rfl := p; cases e; exact .non
    | bl b => obtain rfl := p; cases e; exact .bl b
    | int i => obtain rfl := p; cases e; exact .int i
    | str s => obtain rfl := p; cases e; exact .str s
    | _ => cases e
  | succ n ih =>
    intro x v d p e
    cases x with
    | non => obtain rfl := p; cases e; exact .non
    | bl b => obtain rfl := p; cases e; exact .bl b
    | int i => obtain rfl := p; cases e; exact .int i
    | str s => obtain rfl := p; cases e; exact .str s
    | exc c ns xs => cases e
    | tup xs =>
      obtain ⟨a, vs, rfl, t, ps⟩ := p
      have e' : (datAll (dat h n) xs).map PyData.tuple = some d := e
      cases q : datAll (dat h n) xs with
      | none => rw [q] at e'; cases e'
      | some ds =>
        rw [q] at e'
        cases e'
        exact .tup t.sq (dat_all _ ih xs vs ds ps q)
    | itp xs =>
      obtain ⟨a, vs, rfl, t, ps⟩ := p
      have e' : (datAll (dat h n) xs).map PyData.tuple = some d := e
      cases q : datAll (dat h n) xs with
      | none => rw [q] at e'; cases e'
      | some ds =>
        rw [q] at e'
        cases e'
        exact .tup t.sq (dat_all _ ih xs vs ds ps q)
    | ils xs =>
      obtain ⟨a, vs, rfl, t, ps⟩ := p
      have e' : (datAll (dat h n) xs).map PyData.list = some d := e
      cases q : datAll (dat h n) xs with
      | none => rw [q] at e'; cases e'
      | some ds =>
        rw [q] at e'
        cases e'
        exact .lst t.sq (dat_all _ ih xs vs ds ps q)
    | ref i =>
      have e' : (match h[i]? with | some (.lst xs) => (datAll (dat h n) xs).map PyData.list | _ => none) = some d := e
      split at e'
      · rename_i xs hi
        obtain ⟨a, e1, rfl⟩ := p
        obtain ⟨b, vs, e2, k, ps⟩ := r.lst hi
        rw [e1] at e2; cases e2
        cases q : datAll (dat h n) xs with
        | none => rw [q] at e'; cases e'
        | some ds =>
          rw [q] at e'
          cases e'
          exact .lst (SqL.of k) (dat_all _ ih xs vs ds ps q)
      · cases e'

/-! ### dicts -/
theorem keyOf_one {k : At} (e : keyOf x = some (.one k)) (p : Rep X.K ρ H x v) : v = kV k := by
  cases x with
  | int i => simp [keyOf] at e; subst e; exact p
  | str s => simp [keyOf] at e; subst e; exact p
  | tup xs =>
    simp only [keyOf] at e
    cases q : keyAtoms xs with
    | none => rw [q] at e; cases e
    | some ks => rw [q] at e; cases e
  | _ => simp [keyOf] at e
theorem keyAtoms_rep : ∀ {xs : List PV} {vs : List V} {ks : List At}, keyAtoms xs = some ks → Reps X.K ρ H xs vs → vs = ks.map kV
  | [], vs, ks, e, p => by cases p; simp [keyAtoms] at e; subst e; rfl
  | x :: xs, vs, ks, e, ⟨v, r, e1, p, ps⟩ => by
    subst e1
    unfold keyAtoms at e
    split at e
    · rename_i k ks' h1 h2
      cases e
      rw [keyAtoms_rep h2 ps]
      cases x with
      | int i => simp [keyAtom] at h1; subst h1; obtain rfl := p; rfl
      | str s => simp [keyAtom] at h1; subst h1; obtain rfl := p; rfl
      | _ => simp [keyAtom] at h1
    · cases e
theorem keyOf_many {ks : List At} (e : keyOf x = some (.many ks)) (p : Rep X.K ρ H x v) : ∃ b, v = .ref b ∧ H b = some (.tup (ks.map kV)) := by
  cases x with
  | tup xs =>
    simp only [keyOf] at e
    cases q : keyAtoms xs with
    | none => rw [q] at e; cases e
    | some js =>
      rw [q] at e
      cases e
      obtain ⟨a, vs, rfl, t, ps⟩ := p
      rw [keyAtoms_rep q ps] at t
      exact ⟨a, rfl, t⟩
  | int i => simp [keyOf] at e
  | str s => simp [keyOf] at e
  | _ => simp [keyOf] at e
theorem valV_cons {κ : Type} [DecidableEq κ] (j k : κ) (v : V) (r : List (κ × V)) : valV ((j, v) :: r) k = if j = k then some v else valV r k := by
  by_cases e : j = k
  · rw [if_pos e]; exact valV_pos (p := (j, v)) e
  · rw [if_neg e]; exact valV_neg (p := (j, v)) e
theorem d1_get : ∀ {kvs : List (Ky × PV)} {ws : List (Key × V)} (k : Key), RepD1 X.K ρ H kvs ws → (dget (.one k) kvs = none ∧ valV ws k = none) ∨ ∃ x v, dget (.one k) kvs = some x ∧ valV ws k = some v ∧ Rep X.K ρ H x v
  | [], _, k, q => by cases q; exact .inl ⟨rfl, rfl⟩
  | (j, x) :: r, _, k, ⟨j', v, r', e, e2, p, ps⟩ => by
    subst e e2
    rw [valV_cons]
    unfold dget
    by_cases hj : j' = k
    · subst hj
      rw [if_pos rfl, if_pos rfl]
      exact .inr ⟨x, v, rfl, rfl, p⟩
    · rw [if_neg hj, if_neg (fun z => hj (Ky.one.inj z))]
      exact d1_get k ps
theorem d2_get : ∀ {kvs : List (Ky × PV)} {ws : List (List Key × V)} (k : List Key), RepD2 X.K ρ H kvs ws → (dget (.many k) kvs = none ∧ valV ws k = none) ∨ ∃ x v, dget (.many k) kvs = some x ∧ valV ws k = some v ∧ Rep X.K ρ H x v
  | [], _, k, q => by cases q; exact .inl ⟨rfl, rfl⟩
  | (j, x) :: r, _, k, ⟨j', v, r', e, e2, p, ps⟩ => by
    subst e e2
    rw [valV_cons]
    unfold dget
    by_cases hj : j' = k
    · subst hj
      rw [if_pos rfl, if_pos rfl]
      exact .inr ⟨x, v, rfl, rfl, p⟩
    · rw [if_neg hj, if_neg (fun z => hj (Ky.many.inj z))]
      exact d2_get k ps
theorem d1_many : ∀ {kvs : List (Ky × PV)} {ws : List (Key × V)} (k : List At), RepD1 X.K ρ H kvs ws → dget (.many k) kvs = none
  | [], _, k, _ => rfl
  | (j, x) :: r, _, k, ⟨j', v, r', e, e2, p, ps⟩ => by
    subst e e2
    unfold dget
    rw [if_neg (fun z => by cases z)]
    exact d1_many k ps
theorem d2_one : ∀ {kvs : List (Ky × PV)} {ws : List (List Key × V)} (k : At), RepD2 X.K ρ H kvs ws → dget (.one k) kvs = none
  | [], _, k, _ => rfl
  | (j, x) :: r, _, k, ⟨j', v, r', e, e2, p, ps⟩ => by
    subst e e2
    unfold dget
    rw [if_neg (fun z => by cases z)]
    exact d2_one k ps
/-- what a dict tells of a key that is there -/
theorem dic_some {i : Nat} {kvs : List (Ky × PV)} {k : Ky} {a : Addr} (r : HR X.K X.mg ρ h H) (e : h[i]? = some (.dic kvs)) (e1 : ρ[i]? = some a) (hk : keyOf y = some k) (p : Rep X.K ρ H y u) (g : dget k kvs = some z) :
    ∃ w, DGet H a u (some w) ∧ Rep X.K ρ H z w := by
  obtain ⟨b, e2, q⟩ := r.get e
  rw [e1] at e2; cases e2
  rcases q with ⟨ws, hd, q⟩ | ⟨ws, hd, q⟩
  · cases k with
    | one k =>
      rcases d1_get k q with ⟨g1, _⟩ | ⟨x', w, g1, g2, rp⟩
      · rw [g] at g1; cases g1
      · rw [g] at g1; cases g1
        exact ⟨w, .inl ⟨ws, k, .inl hd, keyOf_one hk p, g2.symm⟩, rp⟩
    | many k => rw [d1_many k q] at g; cases g
  · cases k with
    | many k =>
      rcases d2_get k q with ⟨g1, _⟩ | ⟨x', w, g1, g2, rp⟩
      · rw [g] at g1; cases g1
      · rw [g] at g1; cases g1
        obtain ⟨b, rfl, hb⟩ := keyOf_many hk p
        exact ⟨w, .inr ⟨ws, k, b, .inl hd, rfl, hb, g2.symm⟩, rp⟩
    | one k => rw [d2_one k q] at g; cases g
/-- the same of a locked dict -/
theorem ldc_some {i : Nat} {kvs : List (Ky × PV)} {u0 : HO} {k : Ky} {a : Addr} (r : HR X.K X.mg ρ h H) (e : h[i]? = some (.ldc u0 kvs)) (e1 : ρ[i]? = some a) (hk : keyOf y = some k) (p : Rep X.K ρ H y u) (g : dget k kvs = some z) :
    ∃ w, DGet H a u (some w) ∧ Rep X.K ρ H z w := by
  obtain ⟨b, e2, q⟩ := r.get e
  rw [e1] at e2; cases e2
  obtain ⟨hd, q⟩ := q
  rcases q with ⟨od, ws, rfl, q⟩ | ⟨od, ws, rfl, q⟩
  · cases k with
    | one k =>
      rcases d1_get k q with ⟨g1, _⟩ | ⟨x', w, g1, g2, rp⟩
      · rw [g] at g1; cases g1
      · rw [g] at g1; cases g1
        exact ⟨w, .inl ⟨ws, k, .inr ⟨od, hd⟩, keyOf_one hk p, g2.symm⟩, rp⟩
    | many k => rw [d1_many k q] at g; cases g
  · cases k with
    | many k =>
      rcases d2_get k q with ⟨g1, _⟩ | ⟨x', w, g1, g2, rp⟩
      · rw [g] at g1; cases g1
      · rw [g] at g1; cases g1
        obtain ⟨b, rfl, hb⟩ := keyOf_many hk p
        exact ⟨w, .inr ⟨ws, k, b, .inr ⟨od, hd⟩, rfl, hb, g2.symm⟩, rp⟩
    | one k => rw [d2_one k q] at g; cases g
/-- an empty dict is one of both kinds -/
theorem toT {pins : List (Addr × Obj)} {σ : St} {s : Shared} {a : Addr} (I : Inv X pins σ H s) (e : H a = some (.dK [])) : Inv X pins σ (upd H a (.dT [])) s := by
  obtain ⟨_, hd, vs, rel, dd⟩ : ([] : List (Key × V)).length ≤ sizeLine ∧ (a == sysModules) = false ∧ ∃ vs, KV ([] : List (Key × V)) vs ∧ s.heap.DictOf (mixKind X.prog X.w) a vs := I.hok a _ e
  cases rel
  obtain ⟨o, es, ep, h1, h2, h3, h4, h5, h6⟩ := id dd
  have e0 : es.toList = [] := by
    cases hh : es.toList with
    | nil => rfl
    | cons x r => rw [hh] at h5; cases h5
  have J : Inv X pins σ (upd H a (.dT [])) { s with heap := s.heap, toks := s.toks } := I.write (t' := s.toks) (x := a) (e := a) (by rw [e]; trivial) (.inl rfl) (fun b u _ q => q) ⟨o, h1⟩ ⟨Nat.zero_le _, hd, [], .nil, o, es, ep, h1, h2, h3, by rw [e0]; rfl, List.nodup_nil⟩
  exact J
theorem toK {pins : List (Addr × Obj)} {σ : St} {s : Shared} {a : Addr} (I : Inv X pins σ H s) (e : H a = some (.dT [])) : Inv X pins σ (upd H a (.dK [])) s := by
  obtain ⟨_, hd, vs, rel, o, es, ep, h1, h2, h3, h4, h5⟩ := id (I.hok a _ e)
  cases rel
  have e0 : es.toList = [] := h4
  have kk : KeysOf (mixKind X.prog X.w) es := fun d hd' => by
    have hd2 : d ∈ es.toList := by simpa using hd'
    rw [e0] at hd2
    cases hd2
  have pp : Pairs (mixKind X.prog X.w) es.toList [] := by
    rw [e0]
    exact .nil
  have dd : s.heap.DictOf (mixKind X.prog X.w) a [] := ⟨o, es, ep, h1, h2, h3, kk, pp, List.nodup_nil⟩
  have J : Inv X pins σ (upd H a (.dK [])) { s with heap := s.heap, toks := s.toks } := I.write (t' := s.toks) (x := a) (e := a) (by rw [e]; trivial) (.inl rfl) (fun b u _ q => q) ⟨o, h1⟩ ⟨Nat.zero_le _, hd, [], .nil, dd⟩
  exact J
theorem d1_kind {kvs : List (Ky × PV)} {ws : List (Key × V)} {k : List At} (q : RepD1 X.K ρ H kvs ws) (z : kindOk (.many k) kvs = true) : kvs = [] ∧ ws = [] := by
  cases kvs with
  | nil => cases q; exact ⟨rfl, rfl⟩
  | cons p r =>
    obtain ⟨j, x⟩ := p
    obtain ⟨j', v, r', e, e2, _⟩ := q
    subst e2
    cases z
theorem d2_kind {kvs : List (Ky × PV)} {ws : List (List Key × V)} {k : At} (q : RepD2 X.K ρ H kvs ws) (z : kindOk (.one k) kvs = true) : kvs = [] ∧ ws = [] := by
  cases kvs with
  | nil => cases q; exact ⟨rfl, rfl⟩
  | cons p r =>
    obtain ⟨j, x⟩ := p
    obtain ⟨j', v, r', e, e2, _⟩ := q
    subst e2
    cases z
/-- the dict as its keys want it: the same heap, told otherwise -/
theorem dic_any {pins : List (Addr × Obj)} {σ : St} {s : Shared} {i : Nat} {kvs : List (Ky × PV)} {k : Ky} {a : Addr} (I : Inv X pins σ H s) (r : HR X.K X.mg ρ h H) (e : h[i]? = some (.dic kvs)) (e1 : ρ[i]? = some a) (hk : keyOf y = some k) (p : Rep X.K ρ H y u) (kk : kindOk k kvs = true) :
    ∃ H1 o, Inv X pins σ H1 s ∧ Nx ρ H ρ H1 ∧ HR X.K X.mg ρ h H1 ∧ DGet H1 a u o ∧ o.isSome = (dget k kvs).isSome := by
  obtain ⟨b, e2, q⟩ := r.get e
  rw [e1] at e2; cases e2
  have hi : i < h.length := (List.getElem?_eq_some_iff.mp e).1
  have hself : h.set i (.dic kvs) = h := by
    obtain ⟨_, ee⟩ := List.getElem?_eq_some_iff.mp e
    rw [← ee]
    exact List.set_getElem_self _
  rcases q with ⟨ws, hd, q⟩ | ⟨ws, hd, q⟩
  · cases k with
    | one k =>
      rcases d1_get k q with ⟨g1, g2⟩ | ⟨x', w, g1, g2, rp⟩
      · exact ⟨H, _, I, .refl, r, .inl ⟨ws, k, .inl hd, keyOf_one hk p, rfl⟩, by rw [g1, g2] <;> rfl⟩
      · exact ⟨H, _, I, .refl, r, .inl ⟨ws, k, .inl hd, keyOf_one hk p, rfl⟩, by rw [g1, g2] <;> rfl⟩
    | many k =>
      obtain ⟨rfl, rfl⟩ := d1_kind q kk
      obtain ⟨b, rfl, hb⟩ := keyOf_many hk p
      have wr := r.write (i := i) (a := a) e1 (u := .dT []) (o := .dic []) (.inr ⟨[], upd_same, rfl⟩)
      rw [hself] at wr
      exact ⟨upd H a (.dT []), _, toT I hd, wr.2, wr.1, .inr ⟨[], k, b, .inl upd_same, rfl, (upd_ne (ne_of hb hd (by intro z; cases z))).trans hb, rfl⟩, rfl⟩
  · cases k with
    | many k =>
      obtain ⟨b, rfl, hb⟩ := keyOf_many hk p
      rcases d2_get k q with ⟨g1, g2⟩ | ⟨x', w, g1, g2, rp⟩
      · exact ⟨H, _, I, .refl, r, .inr ⟨ws, k, b, .inl hd, rfl, hb, rfl⟩, by rw [g1, g2] <;> rfl⟩
      · exact ⟨H, _, I, .refl, r, .inr ⟨ws, k, b, .inl hd, rfl, hb, rfl⟩, by rw [g1, g2] <;> rfl⟩
    | one k =>
      obtain ⟨rfl, rfl⟩ := d2_kind q kk
      have wr := r.write (i := i) (a := a) e1 (u := .dK []) (o := .dic []) (.inl ⟨[], upd_same, rfl⟩)
      rw [hself] at wr
      exact ⟨upd H a (.dK []), _, toK I hd, wr.2, wr.1, .inl ⟨[], k, .inl upd_same, keyOf_one hk p, rfl⟩, rfl⟩

/-! ### d[k] = v -/
theorem d1_map (k : Key) {v : V} (rp : Rep X.K ρ H x v) : ∀ {kvs : List (Ky × PV)} {ws : List (Key × V)}, RepD1 X.K ρ H kvs ws →
    RepD1 X.K ρ H (kvs.map fun p => if p.1 = .one k then (p.1, x) else p) (ws.map fun kv => if kv.1 = k then (kv.1, v) else kv)
  | [], _, q => by cases q; exact rfl
  | (j, y) :: r, _, ⟨j', u, r', e, e2, p, ps⟩ => by
    subst e e2
    rw [List.map_cons, List.map_cons]
    by_cases hj : j' = k
    · subst hj
      rw [if_pos rfl, if_pos rfl]
      exact ⟨_, _, _, rfl, rfl, rp, d1_map j' rp ps⟩
    · rw [if_neg hj, if_neg (fun z => hj (Ky.one.inj z))]
      exact ⟨_, _, _, rfl, rfl, p, d1_map k rp ps⟩
theorem d2_map (k : List Key) {v : V} (rp : Rep X.K ρ H x v) : ∀ {kvs : List (Ky × PV)} {ws : List (List Key × V)}, RepD2 X.K ρ H kvs ws →
    RepD2 X.K ρ H (kvs.map fun p => if p.1 = .many k then (p.1, x) else p) (ws.map fun kv => if kv.1 = k then (kv.1, v) else kv)
  | [], _, q => by cases q; exact rfl
  | (j, y) :: r, _, ⟨j', u, r', e, e2, p, ps⟩ => by
    subst e e2
    rw [List.map_cons, List.map_cons]
    by_cases hj : j' = k
    · subst hj
      rw [if_pos rfl, if_pos rfl]
      exact ⟨_, _, _, rfl, rfl, rp, d2_map j' rp ps⟩
    · rw [if_neg hj, if_neg (fun z => hj (Ky.many.inj z))]
      exact ⟨_, _, _, rfl, rfl, p, d2_map k rp ps⟩
theorem d1_app {k : Key} {v : V} (rp : Rep X.K ρ H x v) : ∀ {kvs : List (Ky × PV)} {ws : List (Key × V)}, RepD1 X.K ρ H kvs ws → RepD1 X.K ρ H (kvs ++ [(.one k, x)]) (ws ++ [(k, v)])
  | [], _, q => by cases q; exact ⟨_, _, _, rfl, rfl, rp, rfl⟩
  | (j, y) :: r, _, ⟨j', u, r', e, e2, p, ps⟩ => by subst e e2; exact ⟨_, _, _, rfl, rfl, p, d1_app rp ps⟩
theorem d2_app {k : List Key} {v : V} (rp : Rep X.K ρ H x v) : ∀ {kvs : List (Ky × PV)} {ws : List (List Key × V)}, RepD2 X.K ρ H kvs ws → RepD2 X.K ρ H (kvs ++ [(.many k, x)]) (ws ++ [(k, v)])
  | [], _, q => by cases q; exact ⟨_, _, _, rfl, rfl, rp, rfl⟩
  | (j, y) :: r, _, ⟨j', u, r', e, e2, p, ps⟩ => by subst e e2; exact ⟨_, _, _, rfl, rfl, p, d2_app rp ps⟩
theorem d1_put (k : Key) {v : V} (rp : Rep X.K ρ H x v) {kvs : List (Ky × PV)} {ws : List (Key × V)} (q : RepD1 X.K ρ H kvs ws) : RepD1 X.K ρ H (dput (.one k) x kvs) (putK ws k v) := by
  unfold dput putK
  rw [valV_any]
  rcases d1_get k q with ⟨g1, g2⟩ | ⟨x', w, g1, g2, _⟩
  · rw [g1, g2, if_neg (by simp), if_neg (by simp)]
    exact d1_app rp q
  · rw [g1, g2, Option.isSome_some, Option.isSome_some, if_pos rfl, if_pos rfl]
    exact d1_map k rp q
theorem d2_put (k : List Key) {v : V} (rp : Rep X.K ρ H x v) {kvs : List (Ky × PV)} {ws : List (List Key × V)} (q : RepD2 X.K ρ H kvs ws) : RepD2 X.K ρ H (dput (.many k) x kvs) (putK ws k v) := by
  unfold dput putK
  rw [valV_any]
  rcases d2_get k q with ⟨g1, g2⟩ | ⟨x', w, g1, g2, _⟩
  · rw [g1, g2, if_neg (by simp), if_neg (by simp)]
    exact d2_app rp q
  · rw [g1, g2, Option.isSome_some, Option.isSome_some, if_pos rfl, if_pos rfl]
    exact d2_map k rp q
theorem d1_len : ∀ {kvs : List (Ky × PV)} {ws : List (Key × V)}, RepD1 X.K ρ H kvs ws → kvs.length = ws.length
  | [], _, q => by cases q; rfl
  | (j, y) :: r, _, ⟨j', u, r', e, e2, p, ps⟩ => by subst e; rw [List.length_cons, List.length_cons, d1_len ps]
theorem d2_len : ∀ {kvs : List (Ky × PV)} {ws : List (List Key × V)}, RepD2 X.K ρ H kvs ws → kvs.length = ws.length
  | [], _, q => by cases q; rfl
  | (j, y) :: r, _, ⟨j', u, r', e, e2, p, ps⟩ => by subst e; rw [List.length_cons, List.length_cons, d2_len ps]
/-- a store into a dict: the heap told otherwise first, where the empty dict was of the other kind -/
theorem dic_put {pins : List (Addr × Obj)} {σ : St} {s : Shared} {i : Nat} {kvs : List (Ky × PV)} {k : Ky} {a : Addr} (I : Inv X pins σ H s) (r : HR X.K X.mg ρ h H) (e : h[i]? = some (.dic kvs)) (e1 : ρ[i]? = some a) (hk : keyOf y = some k) (p : Rep X.K ρ H y u)
    (pz : Rep X.K ρ H z w) (kk : kindOk k kvs = true) (hl : kvs.length < big) :
    ∃ H1 H2, Inv X pins σ H1 s ∧ DPut H1 a u w H2 ∧ Nx ρ H ρ H2 ∧ HR X.K X.mg ρ (h.set i (.dic (dput k z kvs))) H2 := by
  obtain ⟨b, e2, q⟩ := r.get e
  rw [e1] at e2; cases e2
  rcases q with ⟨ws, hd, q⟩ | ⟨ws, hd, q⟩
  · cases k with
    | one k =>
      have wr := fun (new) => r.write (i := i) (a := a) e1 (u := .dK (putK ws k w)) (o := .dic (dput (.one k) z kvs)) new
      have n : Nx ρ H ρ (upd H a (.dK (putK ws k w))) := ⟨⟨[], by simp⟩, fun b o q z => by rw [upd_ne (fun y => z (by rw [y]; exact List.mem_of_getElem? e1) : b ≠ a)]; exact q, fun b q z => absurd q z⟩
      have wr' := wr (.inl ⟨_, upd_same, RepD1.stay (r.stay n) _ _ (d1_put k pz q)⟩)
      exact ⟨H, _, I, .inl ⟨ws, k, hd, keyOf_one hk p, by rw [← big_eq, ← d1_len q]; exact hl, rfl⟩, wr'.2, wr'.1⟩
    | many k =>
      obtain ⟨rfl, rfl⟩ := d1_kind q kk
      obtain ⟨b, rfl, hb⟩ := keyOf_many hk p
      have n : Nx ρ H ρ (upd (upd H a (.dT [])) a (.dT [(k, w)])) := ⟨⟨[], by simp⟩, fun b o q z => by
        have nb : b ≠ a := fun y => z (by rw [y]; exact List.mem_of_getElem? e1)
        rw [upd_ne nb, upd_ne nb]; exact q, fun b q z => absurd q z⟩
      have n' := n
      rw [upd_upd] at n'
      have wr := r.write (i := i) (a := a) e1 (u := .dT [(k, w)]) (o := .dic (dput (.many k) z [])) (.inr ⟨_, upd_same, ⟨k, w, [], rfl, rfl, pz.nx r n', rfl⟩⟩)
      refine ⟨upd H a (.dT []), upd (upd H a (.dT [])) a (.dT [(k, w)]), toT I hd, .inr ⟨[], k, b, upd_same, rfl, (upd_ne (ne_of hb hd (by intro z; cases z))).trans hb, by decide, rfl⟩, n, ?_⟩
      rw [upd_upd]
      exact wr.1
  · cases k with
    | many k =>
      obtain ⟨b, rfl, hb⟩ := keyOf_many hk p
      have n : Nx ρ H ρ (upd H a (.dT (putK ws k w))) := ⟨⟨[], by simp⟩, fun b o q z => by rw [upd_ne (fun y => z (by rw [y]; exact List.mem_of_getElem? e1) : b ≠ a)]; exact q, fun b q z => absurd q z⟩
      have wr' := r.write (i := i) (a := a) e1 (u := .dT (putK ws k w)) (o := .dic (dput (.many k) z kvs)) (.inr ⟨_, upd_same, RepD2.stay (r.stay n) _ _ (d2_put k pz q)⟩)
      exact ⟨H, _, I, .inr ⟨ws, k, b, hd, rfl, hb, by rw [← big_eq, ← d2_len q]; exact hl, rfl⟩, wr'.2, wr'.1⟩
    | one k =>
      obtain ⟨rfl, rfl⟩ := d2_kind q kk
      have n : Nx ρ H ρ (upd (upd H a (.dK [])) a (.dK [(k, w)])) := ⟨⟨[], by simp⟩, fun b o q z => by
        have nb : b ≠ a := fun y => z (by rw [y]; exact List.mem_of_getElem? e1)
        rw [upd_ne nb, upd_ne nb]; exact q, fun b q z => absurd q z⟩
      have n' := n
      rw [upd_upd] at n'
      have wr := r.write (i := i) (a := a) e1 (u := .dK [(k, w)]) (o := .dic (dput (.one k) z [])) (.inl ⟨_, upd_same, ⟨k, w, [], rfl, rfl, pz.nx r n', rfl⟩⟩)
      refine ⟨upd H a (.dK []), upd (upd H a (.dK [])) a (.dK [(k, w)]), toK I hd, .inl ⟨[], k, upd_same, keyOf_one hk p, by decide, rfl⟩, n, ?_⟩
      rw [upd_upd]
      exact wr.1
end
end Z

/-! ZsD: operators and subscripts by values, in the hand layer's words. -/
namespace Z
open PySem L2
section
variable {X : Cx} {W : WX}

/-- a comparison, by values -/
def cmpO (o : CmpOp) (x y : PV) (h : Hep) (F : KQ) : Prop := cmpW o x y h fun t => F (.bl t) h

theorem in_core {neg : Bool} (hu : X.A.units + 65 < cLine) {pins : List (Addr × Obj)} {s : Shared} {σ : St} {H : Hp} {x y : PV} {v u : V} {ov uv : Value} {Q : VK} {ρ : List Addr} {h : Hep} {K : Bool → Prop} (I : Inv X pins σ H s) (rx : RelV v ov) (ry : RelV u uv)
    (r : HR X.K X.mg ρ h H) (px : Rep X.K ρ H x v) (py : Rep X.K ρ H y u) (w : inW h x y K)
    (hQ : ∀ (b : Bool) (H' : Hp), K b → Nx ρ H ρ H' → HR X.K X.mg ρ h H' → Q (.bl (if neg = true then !b else b)) H') :
    wpAny (model X.prog X.w) X.A (compareOp (if neg = true then .NotIn else .In) ov uv) (EP X pins σ Q) X.xe s := by
  have seqs : ∀ {ys : List PV} {es : PyData} , inL h x ys K → (∀ ds, datAll (dat h 59) ys = some ds → ∃ as, Reads s.heap uv (.list ds) as ∨ Reads s.heap uv (.tuple ds) as) →
      wpAny (model X.prog X.w) X.A (compareOp (if neg = true then .NotIn else .In) ov uv) (EP X pins σ Q) X.xe s := by
    intro ys es hi hr
    obtain ⟨d, ds, e1, e2, e3, e4, k⟩ := hi
    obtain ⟨bs, r1⟩ := Dp.reads I d v ov (dat_dp r 59 x v d px e1) rx
    have z := SeqAt.canLay_of_shaped e2
    have dz := SeqAt.depth_of_shaped e2
    have room : X.A.units + 1 + min (PyData.depthAll ds) d.depth < cLine := by
      have := Nat.min_le_right (PyData.depthAll ds) d.depth
      omega
    obtain ⟨as, q⟩ := hr ds e3
    have fin := hQ _ H k .refl r
    cases neg with
    | true =>
      rcases q with q | q
      · exact SeqAt.notIn_list_reads q r1 e4 z room ⟨.bl _, H, I, rfl, fin⟩
      · exact SeqAt.notIn_tuple_reads q r1 e4 z room ⟨.bl _, H, I, rfl, fin⟩
    | false =>
      rcases q with q | q
      · exact SeqAt.in_list_reads q r1 e4 z room ⟨.bl _, H, I, rfl, fin⟩
      · exact SeqAt.in_tuple_reads q r1 e4 z room ⟨.bl _, H, I, rfl, fin⟩
  cases y with
  | str t =>
    obtain rfl := py
    cases x with
    | str s' =>
      obtain rfl := px
      have k : K (!(Builtin.Str.occurrences t s' 0 t.length 1).isEmpty) := w
      have fin := hQ _ H k .refl r
      cases neg with
      | true => exact op_notin_str pins s σ H _ _ ov uv Q I rx ry ⟨s', t, rfl, rfl, fin⟩
      | false => exact op_in_str pins s σ H _ _ ov uv Q I rx ry ⟨s', t, rfl, rfl, fin⟩
    | _ => exact False.elim w
  | tup ys =>
    obtain ⟨a, vs, rfl, t, ps⟩ := py
    refine seqs (es := .none) w fun ds e => ?_
    obtain ⟨as, q⟩ := Dp.reads I (.tuple ds) _ uv (.tup t.sq (dat_all _ (dat_dp r 59) ys vs ds ps e)) ry
    exact ⟨as, .inr q⟩
  | itp ys =>
    obtain ⟨a, vs, rfl, t, ps⟩ := py
    refine seqs (es := .none) w fun ds e => ?_
    obtain ⟨as, q⟩ := Dp.reads I (.tuple ds) _ uv (.tup t.sq (dat_all _ (dat_dp r 59) ys vs ds ps e)) ry
    exact ⟨as, .inr q⟩
  | ils ys =>
    obtain ⟨a, vs, rfl, t, ps⟩ := py
    refine seqs (es := .none) w fun ds e => ?_
    obtain ⟨as, q⟩ := Dp.reads I (.list ds) _ uv (.lst t.sq (dat_all _ (dat_dp r 59) ys vs ds ps e)) ry
    exact ⟨as, .inl q⟩
  | ref i =>
    have w' : (match h[i]? with
      | some (.lst ys) => inL h x ys K
      | some (.dic kvs) => ∃ k, keyOf x = some k ∧ kindOk k kvs = true ∧ K (dget k kvs).isSome
      | _ => False) := w
    split at w'
    · rename_i ys e
      obtain ⟨a, e1, rfl⟩ := py
      obtain ⟨b, vs, e2, k, ps⟩ := r.lst e
      rw [e1] at e2; cases e2
      refine seqs (es := .none) w' fun ds e => ?_
      obtain ⟨as, q⟩ := Dp.reads I (.list ds) _ uv (.lst (SqL.of k) (dat_all _ (dat_dp r 59) ys vs ds ps e)) ry
      exact ⟨as, .inl q⟩
    · rename_i kvs e
      obtain ⟨k, hk, kk, w'⟩ := w'
      obtain ⟨a, e1, rfl⟩ := py
      obtain rfl : uv = Value.ref a := ry
      obtain ⟨H1, o, I1, n, r1, g, eo⟩ := dic_any I r e e1 hk px kk
      have fin := hQ _ H1 w' n r1
      rw [← eo] at fin
      have hu1 : X.A.units + 1 < cLine := by omega
      cases neg with
      | true => exact d_notIn hu1 I1 g rx fun s3 I3 => ⟨.bl _, H1, I3, rfl, fin⟩
      | false => exact d_in hu1 I1 g rx fun s3 I3 => ⟨.bl _, H1, I3, rfl, fin⟩
    · exact w'.elim
  | _ => exact False.elim w

theorem or_cmp (hu : X.A.units + 65 < cLine) (o : CmpOp) : OpR X (compareOp o) (LR2 X (cmpO o)) := by
  intro pins s σ H x y v u Q I rx ry q
  obtain ⟨ρ, h, x', y', F, r, p1, p2, kq, w⟩ := q
  have hu64 : X.A.units + 64 < cLine := by omega
  unfold cmpO at w
  cases o with
  | Eq =>
    have w2 : eqW h x' y' fun t => F (.bl t) h := w
    clear w
    rcases w2 with ⟨d, e, e1, e2, s1, s2, w⟩ | ⟨a, b, rfl, rfl, w⟩
    · exact op_eqD hu64 pins s σ H _ _ v u Q I rx ry ⟨d, e, dat_dp r 60 _ _ _ p1 e1, dat_dp r 60 _ _ _ p2 e2, s1, s2, kq.bl r w⟩
    · obtain rfl := p1
      obtain rfl := p2
      exact op_eq pins s σ H _ _ v u Q I rx ry ⟨rfl, by rw [dec_str]; exact kq.bl r w⟩
  | NotEq =>
    have w2 : eqW h x' y' fun t => F (.bl (!t)) h := w
    clear w
    rcases w2 with ⟨d, e, e1, e2, s1, s2, w⟩ | ⟨a, b, rfl, rfl, w⟩
    · exact op_neD hu64 pins s σ H _ _ v u Q I rx ry ⟨d, e, dat_dp r 60 _ _ _ p1 e1, dat_dp r 60 _ _ _ p2 e2, s1, s2, kq.bl r w⟩
    · obtain rfl := p1
      obtain rfl := p2
      exact op_ne pins s σ H _ _ v u Q I rx ry ⟨rfl, by rw [dec_str]; exact kq.bl r w⟩
  | Lt =>
    unfold cmpW at w
    dsimp only at w
    split at w
    · obtain rfl := p1
      obtain rfl := p2
      exact op_lt pins s σ H _ _ v u Q I rx ry ⟨_, _, rfl, rfl, kq.bl r w⟩
    · obtain rfl := p1
      obtain rfl := p2
      exact op_lt_str pins s σ H _ _ v u Q I rx ry ⟨_, _, rfl, rfl, kq.bl r w⟩
    · exact w.elim
  | LtE =>
    unfold cmpW at w
    dsimp only at w
    split at w
    · obtain rfl := p1
      obtain rfl := p2
      exact op_le pins s σ H _ _ v u Q I rx ry ⟨_, _, rfl, rfl, kq.bl r w⟩
    · exact w.elim
  | Gt =>
    unfold cmpW at w
    dsimp only at w
    split at w
    · obtain rfl := p1
      obtain rfl := p2
      exact op_gt pins s σ H _ _ v u Q I rx ry ⟨_, _, rfl, rfl, kq.bl r w⟩
    · exact w.elim
  | GtE =>
    unfold cmpW at w
    dsimp only at w
    split at w
    · obtain rfl := p1
      obtain rfl := p2
      exact op_ge pins s σ H _ _ v u Q I rx ry ⟨_, _, rfl, rfl, kq.bl r w⟩
    · exact w.elim
  | Is =>
    unfold cmpW at w
    dsimp only at w
    split at w
    · obtain rfl := p2
      refine op_isN pins s σ H _ _ v u Q I rx ry ⟨rfl, ?_⟩
      cases x' with
      | non => obtain rfl := p1; exact kq.bl r w
      | bl b => obtain rfl := p1; exact kq.bl r w
      | int b => obtain rfl := p1; exact kq.bl r w
      | str b => obtain rfl := p1; exact kq.bl r w
      | tup b => obtain ⟨a, vs, rfl, _⟩ := p1; exact kq.bl r w
      | itp b => obtain ⟨a, vs, rfl, _⟩ := p1; exact kq.bl r w
      | ils b => obtain ⟨a, vs, rfl, _⟩ := p1; exact kq.bl r w
      | exc b ns xs => obtain ⟨a, C, d, gs, rfl, _⟩ := p1; exact kq.bl r w
      | ref b => obtain ⟨a, _, rfl⟩ := p1; exact kq.bl r w
    · split at w
      · obtain rfl := p1
        obtain rfl := p2
        exact L2.op_isBl pins s σ H _ _ v u Q I rx ry ⟨_, _, rfl, rfl, kq.bl r w⟩
      · exact w.elim
    · exact w.elim
  | IsNot =>
    unfold cmpW at w
    dsimp only at w
    split at w
    · obtain rfl := p2
      refine op_notN pins s σ H _ _ v u Q I rx ry ⟨rfl, ?_⟩
      cases x' with
      | non => obtain rfl := p1; exact kq.bl r w
      | bl b => obtain rfl := p1; exact kq.bl r w
      | int b => obtain rfl := p1; exact kq.bl r w
      | str b => obtain rfl := p1; exact kq.bl r w
      | tup b => obtain ⟨a, vs, rfl, _⟩ := p1; exact kq.bl r w
      | itp b => obtain ⟨a, vs, rfl, _⟩ := p1; exact kq.bl r w
      | ils b => obtain ⟨a, vs, rfl, _⟩ := p1; exact kq.bl r w
      | exc b ns xs => obtain ⟨a, C, d, gs, rfl, _⟩ := p1; exact kq.bl r w
      | ref b => obtain ⟨a, _, rfl⟩ := p1; exact kq.bl r w
    · split at w
      · obtain rfl := p1
        obtain rfl := p2
        exact L2.op_notBl pins s σ H _ _ v u Q I rx ry ⟨_, _, rfl, rfl, kq.bl r w⟩
      · exact w.elim
    · exact w.elim
  | In =>
    refine in_core (neg := false) hu I rx ry r p1 p2 (K := fun t => F (.bl t) h) w fun b H' k n r' => ?_
    exact kq (.bl b) _ _ _ _ n r' rfl k
  | NotIn =>
    refine in_core (neg := true) hu I rx ry r p1 p2 (K := fun t => F (.bl (!t)) h) w fun b H' k n r' => ?_
    exact kq (.bl (!b)) _ _ _ _ n r' rfl k

/-! ### subscripts -/
theorem at_rep {K : PySem.W.Frag} {ρ : List Addr} {H : Hp} {xs : List PV} {vs : List V} {i : Int} {j : Nat} {x : PV} (ps : Reps K ρ H xs vs) (e : ixN xs.length i = some j) (g : xs[j]? = some x) : ∃ v, atI vs i = some v ∧ Rep K ρ H x v := by
  obtain ⟨v, e1, p⟩ := ps.get g
  refine ⟨v, ?_, p⟩
  unfold atI
  rw [← ps.len, show L2.ixN xs.length i = some j from e]
  exact e1
open PySem.Spec PyProof.Rows in
/-- a dict.s subscript -/
theorem ix_dict (hu : X.A.units + 1 < cLine) : IxR X (fun x y H Q => ∃ a v, x = .ref a ∧ DGet H a y (some v) ∧ Q v H) := by
  intro value slice pins s σ H x y v u Q I rx ry h hs
  obtain ⟨a, w, rfl, g, q⟩ := h
  obtain rfl : v = Value.ref a := rx
  have hT := dict_typeIs I g
  unfold subscriptTail
  refine wpAny_bind ?_
  rw [getitemInPython_of_ne hT.not_modules]
  refine wpAny_bind (wpAny_specialOf hT PySem.F.slot_dict_getitem.lookup ?_)
  have fin : wpAny (model X.prog X.w) X.A (subscripted slice false (.ref a) u) (fun r s₃ => wpAny (model X.prog X.w) X.A (letTemporaryGo value (.ref a) r >>= fun _ => pure r) (EP X pins σ Q) X.xe s₃) X.xe s := by
    rw [hs]
    exact wpAny_operating (wpAny_mono (d_getItem hu I g ry fun w' s3 I3 rw' => ⟨w, H, I3, rw', q⟩) (fun r s₃ h₃ => wpAny_bind (wpAny_letTemporaryGo (wpAny_pure h₃))) fun _ _ x => x)
  first
    | exact wpAny_pure (wpAny_bind fin)
    | exact wpAny_bind (wpAny_pure (wpAny_bind fin))
    | exact wpAny_bind fin
theorem ixr_imp {r r' : R2} (h : IxR X r) (k : ∀ v u H Q, r' v u H Q → r v u H Q) : IxR X r' := fun value slice pins s σ H x y v u Q I rx ry q => h value slice pins s σ H x y v u Q I rx ry (k _ _ _ _ q)
theorem ix_all (hu : X.A.units + 1 < cLine) : IxR X (LR2 X itemW) := by
  intro value slice pins s σ H x y v u Q I rx ry q hs
  obtain ⟨ρ, h, x', y', F, r, p1, p2, kq, w⟩ := q
  unfold itemW at w
  split at w
  · obtain ⟨j, z, e, g, w⟩ := w
    obtain ⟨a, vs, rfl, t, ps⟩ := p1
    obtain rfl := p2
    obtain ⟨zv, e1, p⟩ := at_rep ps e g
    exact ix_tup value slice pins s σ H _ _ v u Q I rx ry ⟨a, vs, _, zv, rfl, rfl, t.sq, e1, kq.here r p w⟩ hs
  · obtain ⟨j, z, e, g, w⟩ := w
    obtain ⟨a, vs, rfl, t, ps⟩ := p1
    obtain rfl := p2
    obtain ⟨zv, e1, p⟩ := at_rep ps e g
    exact ix_list value slice pins s σ H _ _ v u Q I rx ry ⟨a, vs, _, zv, rfl, rfl, t.sq, e1, kq.here r p w⟩ hs
  · obtain ⟨j, z, e, g, w⟩ := w
    obtain ⟨a, vs, rfl, t, ps⟩ := p1
    obtain rfl := p2
    obtain ⟨zv, e1, p⟩ := at_rep ps e g
    exact ix_tup value slice pins s σ H _ _ v u Q I rx ry ⟨a, vs, _, zv, rfl, rfl, t.sq, e1, kq.here r p w⟩ hs
  · obtain ⟨j, c, l, e, g, w⟩ := w
    obtain rfl := p1
    obtain rfl := p2
    refine ix_str value slice pins s σ H _ _ v u Q I rx ry ⟨_, _, c, rfl, rfl, by rw [← big_eq]; exact l, ?_, kq.str r w⟩ hs
    unfold atI
    rw [show L2.ixN _ _ = some j from e]
    exact g
  · obtain ⟨a, e1, rfl⟩ := p1
    split at w
    · rename_i xs e
      obtain ⟨b, vs, e2, k, ps⟩ := r.lst e
      rw [e1] at e2; cases e2
      split at w
      · obtain ⟨j, z, e, g, w⟩ := w
        obtain rfl := p2
        obtain ⟨zv, e1, p⟩ := at_rep ps e g
        exact ix_list value slice pins s σ H _ _ v u Q I rx ry ⟨a, vs, _, zv, rfl, rfl, SqL.of k, e1, kq.here r p w⟩ hs
      · exact w.elim
    · rename_i kvs e
      obtain ⟨k, z, hk, g, w⟩ := w
      obtain ⟨zv, dg, p⟩ := dic_some r e e1 hk p2 g
      exact ix_dict hu value slice pins s σ H _ _ v u Q I rx ry ⟨a, zv, rfl, dg, kq.here r p w⟩ hs
    · rename_i u0 kvs e
      obtain ⟨k, z, hk, g, w⟩ := w
      obtain ⟨zv, dg, p⟩ := ldc_some r e e1 hk p2 g
      exact ix_dict hu value slice pins s σ H _ _ v u Q I rx ry ⟨a, zv, rfl, dg, kq.here r p w⟩ hs
    · exact w.elim
  · exact w.elim

/-! ### slices -/
def LRS (X : Cx) : V → Option Int → Option Int → Hp → VK → Prop := fun v lo hi H Q => ∃ (ρ : List Addr) (h : Hep) (x : PV) (F : KQ), HR X.K X.mg ρ h H ∧ Rep X.K ρ H x v ∧ KQok X ρ H F Q ∧ sliceW x lo hi h F
theorem cutL_all {α : Type} {xs : List α} {lo hi : Option Int} (e : HT.sIx xs.length 0 lo = 0 ∧ HT.sIx xs.length xs.length hi = xs.length) : cutL xs lo hi = xs := by
  unfold cutL sIx
  rw [e.1, e.2, Nat.sub_zero, List.drop_zero, List.take_length]
theorem sl_all : SlR X (LRS X) := by
  intro pins s σ H x v vl vu lo hi sl Q I rx hs pl pu q
  obtain ⟨ρ, h, x', F, r, p1, kq, w⟩ := q
  unfold sliceW at w
  split at w
  · obtain ⟨a, vs, rfl, t, ps⟩ := p1
    refine sl_tupA pins s σ H _ v vl vu lo hi sl Q I rx hs pl pu ⟨a, vs, rfl, t.sq, fun z => ?_, fun _ p hp => kq.newT r (ps.cut lo hi) w hp⟩
    rw [← ps.len] at z
    rw [cutL_all z] at w
    exact kq.here r (x := .tup _) ⟨a, vs, rfl, t, ps⟩ w
  · obtain ⟨a, vs, rfl, t, ps⟩ := p1
    exact sl_list pins s σ H _ v vl vu lo hi sl Q I rx hs pl pu ⟨a, vs, rfl, t.sq, fun p hp => kq.newL r (ps.cut lo hi) w hp⟩
  · obtain ⟨xs, e, w⟩ := getL_some w
    obtain ⟨a, e1, rfl⟩ := p1
    obtain ⟨b, vs, e2, k, ps⟩ := r.lst e
    rw [e1] at e2; cases e2
    exact sl_list pins s σ H _ v vl vu lo hi sl Q I rx hs pl pu ⟨a, vs, rfl, SqL.of k, fun p hp => kq.newL r (ps.cut lo hi) w hp⟩
  · obtain rfl := p1
    exact sl_str pins s σ H _ v vl vu lo hi sl Q I rx hs pl pu ⟨_, rfl, by rw [← big_eq]; exact w.1, kq.str r w.2⟩
  · obtain ⟨a, vs, rfl, t, ps⟩ := p1
    refine Zh.sl_tupW pins s σ H _ v vl vu lo hi sl Q I rx hs pl pu ⟨a, vs, rfl, t.sq, fun z => ?_, fun z p o d hp => ?_⟩
    · rw [← ps.len] at z
      rw [cutL_all z] at w
      exact kq.here r (x := .itp _) ⟨a, vs, rfl, t, ps⟩ w
    · exact kq.newW r (ps.cut lo hi) d w hp
  · exact w.elim

/-! ### stores -/
theorem set_all (hu : X.A.units + 1 < cLine) {pins : List (Addr × Obj)} {s : Shared} {σ : St} {H : Hp} {o i v : V} {ov iv u : Value} {Q : Hp → Prop} (I : Inv X pins σ H s) (ro : RelV o ov) (ri : RelV i iv) (rv : RelV v u)
    {ρ : List Addr} {h : Hep} {x y z : PV} {F : Hep → Prop} (r : HR X.K X.mg ρ h H) (p1 : Rep X.K ρ H x o) (p2 : Rep X.K ρ H y i) (p3 : Rep X.K ρ H z v) (w : storeW x y z h F)
    (k : ∀ (h' : Hep) (H' : Hp), Nx ρ H ρ H' → HR X.K X.mg ρ h' H' → F h' → Q H') : wpAny (model X.prog X.w) X.A (setItem ov iv u) (fun _ s' => ∃ H', Inv X pins σ H' s' ∧ Q H') X.xe s := by
  unfold storeW at w
  split at w
  · obtain ⟨a, e1, rfl⟩ := p1
    split at w
    · rename_i xs e
      obtain ⟨b, vs, e2, kk, ps⟩ := r.lst e
      rw [e1] at e2; cases e2
      split at w
      · obtain ⟨j, ej, w⟩ := w
        obtain rfl := p2
        have n : Nx ρ H ρ (upd H a (.lst (vs.set j v))) := ⟨⟨[], by simp⟩, fun b o q z => by rw [upd_ne (fun y => z (by rw [y]; exact List.mem_of_getElem? e1) : b ≠ a)]; exact q, fun b q z => absurd q z⟩
        have wr := r.write e1 (u := .lst (vs.set j v)) (o := .lst (xs.set j z)) ⟨_, upd_same, (ps.set j p3).nx r n⟩
        exact set_list pins s σ H _ _ v ov iv u _ I ro ri rv ⟨a, vs, _, j, rfl, rfl, kk, by rw [← ps.len]; exact ej, k _ _ wr.2 wr.1 w⟩
      · exact w.elim
    · rename_i kvs e
      obtain ⟨ky, hk, hkk, hl, w⟩ := w
      obtain rfl : ov = Value.ref a := ro
      obtain ⟨H1, H2, I1, dp, n, r2⟩ := dic_put I r e e1 hk p2 p3 hkk hl
      exact d_setItem hu I1 dp ri rv fun s4 I4 => ⟨H2, I4, k _ _ n r2 w⟩
    · exact w.elim
  · exact w.elim
end
end Z

/-! ZsE: expressions in the hand layer's judgements, construct by construct. -/
namespace Z
open PySem PyProof.Rows L2

section
variable {X : Cx} {W : WX} {e a b c : Expr} {es : List Expr} {pos : Pos}

/-! ### argument lists -/
theorem za_nil {Γ : List Spec} : PA X [] (LA X W (wEs Γ [])) := pa_imp pa_nil fun σ H Q ⟨ρ, σz, h, F, E, s, kq, kx, w⟩ => by
  unfold wEs at w
  exact kq [] h ρ H [] Nx.refl s.hr rfl w
theorem za_cons {Γ : List Spec} {x : Ex} {xs : List Ex} (ha : PE X e (LE X W (wE Γ x))) (hr : PA X es (LA X W (wEs Γ xs))) (hs : starEach (e :: es) X.env = (false, eval e X.env) :: starEach es X.env) : PA X (e :: es) (LA X W (wEs Γ (x :: xs))) := by
  refine pa_imp (pa_cons ha hr hs) fun σ H Q ⟨ρ, σz, h, F, E, s, kq, kx, w⟩ => ?_
  unfold wEs at w
  refine ⟨ρ, σz, h, _, E, s, fun y h1 ρ1 H1 v n1 r1 p1 w1 => ?_, kx, w⟩
  refine ⟨ρ1, σz, h1, _, E, s.nx n1 r1, fun ys h2 ρ2 H2 vs n2 r2 ps w2 => ?_, kx.nx n1, w1⟩
  exact kq (y :: ys) h2 ρ2 H2 (v :: vs) (n1.trans n2) r2 ⟨v, vs, rfl, p1.nx r1 n2, ps⟩ w2

/-! ### displays -/
theorem ze_tup {Γ : List Spec} {xs : List Ex} {k : Nat} (ha : PA X es (LA X W (wEs Γ xs))) : PE X (.Tuple es k pos) (LE X W (wE Γ (.tup xs))) := by
  refine pe_imp (pe_tup ha) fun σ H Q ⟨ρ, σz, h, F, E, s, kq, kx, w⟩ => ?_
  unfold wE at w
  refine ⟨ρ, σz, h, _, E, s, fun ys h1 ρ1 H1 vs n1 r1 ps w1 => ?_, kx, w⟩
  exact ⟨by rw [← big_eq, ← ps.len]; exact w1.1, fun p hp => (kq.nx n1).newT r1 ps w1.2 hp⟩
theorem ze_xtp {Γ : List Spec} {xs : List Ex} {k : Nat} (ha : PA X es (LA X W (wEs Γ xs))) : PE X (.Tuple es k pos) (LE X W (wE Γ (.xtp xs))) := by
  refine pe_imp (Zh.pe_tupW ha) fun σ H Q ⟨ρ, σz, h, F, E, s, kq, kx, w⟩ => ?_
  unfold wE at w
  refine ⟨ρ, σz, h, _, E, s, fun ys h1 ρ1 H1 vs n1 r1 ps w1 => ?_, kx, w⟩
  exact ⟨by rw [← big_eq, ← ps.len]; exact w1.1, fun p o d hp => (kq.nx n1).newW r1 ps d w1.2 hp⟩
theorem ze_lst {Γ : List Spec} {xs : List Ex} (ha : PA X es (LA X W (wEs Γ xs))) : PE X (.List es pos) (LE X W (wE Γ (.lst xs))) := by
  refine pe_imp (pe_lst ha) fun σ H Q ⟨ρ, σz, h, F, E, s, kq, kx, w⟩ => ?_
  unfold wE at w
  refine ⟨ρ, σz, h, _, E, s, fun ys h1 ρ1 H1 vs n1 r1 ps w1 => ?_, kx, w⟩
  exact ⟨by rw [← big_eq, ← ps.len]; exact w1.1, fun p hp => (kq.nx n1).newL r1 ps w1.2 hp⟩
theorem ze_dct {Γ : List Spec} : PE X (.Dict [] [] pos) (LE X W (wE Γ .dct)) := by
  refine pe_imp pe_dnewK fun σ H Q ⟨ρ, σz, h, F, E, s, kq, kx, w⟩ => fun p hp => ?_
  unfold wE at w
  obtain ⟨r1, n1⟩ := s.hr.alloc hp (u := .dK []) (o := .dic []) (.inl ⟨[], upd_same, rfl⟩)
  exact kq (.ref h.length) _ _ _ _ n1 r1 ⟨p, by rw [← s.hr.len]; simp, rfl⟩ w

/-! ### operators -/
theorem ze_bin {Γ : List Spec} {x y : Ex} {o : Operator} (ha : PE X a (LE X W (wE Γ x))) (hb : PE X b (LE X W (wE Γ y))) : PE X (.BinOp a o b pos) (LE X W (wE Γ (.bin o x y))) := by
  refine pe_imp (pe_op (or_bin o) ha hb) fun σ H Q q => ?_
  have q' : LE X W (fun σz h F E => wE Γ x σz h (fun x h1 => wE Γ y σz h1 (fun y h2 => binW o x y h2 F) E) E) σ H Q := by
    obtain ⟨ρ, σz, h, F, E, s, kq, kx, w⟩ := q
    unfold wE at w
    exact ⟨ρ, σz, h, F, E, s, kq, kx, w⟩
  exact le_two (fun ρ h H x y v u F Q r p1 p2 kq w => ⟨ρ, h, x, y, F, r, p1, p2, kq, w⟩) σ H Q q'
theorem ze_neg {Γ : List Spec} {x : Ex} (ha : PE X a (LE X W (wE Γ x))) : PE X (.UnaryOp .USub a pos) (LE X W (wE Γ (.neg x))) := by
  refine pe_imp (pe_un un_neg ha) fun σ H Q ⟨ρ, σz, h, F, E, s, kq, kx, w⟩ => ?_
  unfold wE at w
  refine ⟨ρ, σz, h, _, E, s, fun y h1 ρ1 H1 v n1 r1 p1 w1 => ?_, kx, w⟩
  split at w1
  · obtain rfl := p1
    exact ⟨_, rfl, (kq.nx n1).int r1 w1⟩
  · exact w1.elim
theorem ze_not {Γ : List Spec} {x : Ex} (ha : PE X a (LE X W (wE Γ x))) : PE X (.UnaryOp .Not a pos) (LE X W (wE Γ (.not x))) := by
  refine pe_imp (pe_notT ha) fun σ H Q ⟨ρ, σz, h, F, E, s, kq, kx, w⟩ => ?_
  unfold wE at w
  refine ⟨ρ, σz, h, _, E, s, fun y h1 ρ1 H1 v n1 r1 p1 w1 => ?_, kx, w⟩
  obtain ⟨k, t, w2⟩ := tru_of r1 p1 w1
  exact ⟨k, t, (kq.nx n1).bl r1 w2⟩
theorem ze_and {Γ : List Spec} {x y : Ex} {r : List Expr} (ha : PE X a (LE X W (wE Γ x))) (hb : PE X (.BoolOp .And (b :: r) pos) (LE X W (wE Γ y))) : PE X (.BoolOp .And (a :: b :: r) pos) (LE X W (wE Γ (.and x y))) := by
  refine pe_imp (pe_andT ha hb) fun σ H Q ⟨ρ, σz, h, F, E, s, kq, kx, w⟩ => ?_
  unfold wE at w
  refine ⟨ρ, σz, h, _, E, s, fun y h1 ρ1 H1 v n1 r1 p1 w1 => ?_, kx, w⟩
  obtain ⟨k, t, w2⟩ := tru_of r1 p1 w1
  refine ⟨k, t, ?_⟩
  cases k with
  | true => exact iteT ⟨ρ1, σz, h1, F, E, s.nx n1 r1, kq.nx n1, kx.nx n1, w2⟩
  | false => exact iteF ((kq.nx n1).here r1 p1 w2)
theorem ze_or {Γ : List Spec} {x y : Ex} {r : List Expr} (ha : PE X a (LE X W (wE Γ x))) (hb : PE X (.BoolOp .Or (b :: r) pos) (LE X W (wE Γ y))) : PE X (.BoolOp .Or (a :: b :: r) pos) (LE X W (wE Γ (.or x y))) := by
  refine pe_imp (pe_orT ha hb) fun σ H Q ⟨ρ, σz, h, F, E, s, kq, kx, w⟩ => ?_
  unfold wE at w
  refine ⟨ρ, σz, h, _, E, s, fun y h1 ρ1 H1 v n1 r1 p1 w1 => ?_, kx, w⟩
  obtain ⟨k, t, w2⟩ := tru_of r1 p1 w1
  refine ⟨k, t, ?_⟩
  cases k with
  | true => exact iteT ((kq.nx n1).here r1 p1 w2)
  | false => exact iteF ⟨ρ1, σz, h1, F, E, s.nx n1 r1, kq.nx n1, kx.nx n1, w2⟩
theorem ze_one {Γ : List Spec} {x : Ex} {op : BoolOp} (ha : PE X a (LE X W (wE Γ x))) : PE X (.BoolOp op [a] pos) (LE X W (wE Γ x)) := pe_one ha
theorem ze_ife {Γ : List Spec} {x y z : Ex} (hc : PT X c (LT X W (wT Γ x))) (ha : PE X a (LE X W (wE Γ y))) (hb : PE X b (LE X W (wE Γ z))) : PE X (.IfExp c a b pos) (LE X W (wE Γ (.ife x y z))) := by
  refine pe_imp (pe_ifExp hc ha hb) fun σ H Q ⟨ρ, σz, h, F, E, s, kq, kx, w⟩ => ?_
  unfold wE at w
  refine ⟨ρ, σz, h, fun t h1 => if t = true then wE Γ y σz h1 F E else wE Γ z σz h1 F E, E, s, fun t h1 ρ1 H1 n1 r1 w1 => ?_, kx, w⟩
  cases t with
  | true => exact iteT ⟨ρ1, σz, h1, F, E, s.nx n1 r1, kq.nx n1, kx.nx n1, w1⟩
  | false => exact iteF ⟨ρ1, σz, h1, F, E, s.nx n1 r1, kq.nx n1, kx.nx n1, w1⟩
theorem ze_cmp {Γ : List Spec} {x y : Ex} {o : CmpOp} (hu : X.A.units + 65 < cLine) (ha : PE X a (LE X W (wE Γ x))) (hb : PE X b (LE X W (wE Γ y))) (hm : behindInMarks o b = false) : PE X (.Compare a [o] [b] pos) (LE X W (wE Γ (.cmp o x y))) := by
  refine pe_imp (pe_cmpR (or_cmp hu o) ha hb hm) fun σ H Q q => ?_
  have q' : LE X W (fun σz h F E => wE Γ x σz h (fun x h1 => wE Γ y σz h1 (fun y h2 => cmpO o x y h2 F) E) E) σ H Q := by
    obtain ⟨ρ, σz, h, F, E, s, kq, kx, w⟩ := q
    unfold wE at w
    exact ⟨ρ, σz, h, F, E, s, kq, kx, w⟩
  exact le_two (fun ρ h H x y v u F Q r p1 p2 kq w => ⟨ρ, h, x, y, F, r, p1, p2, kq, w⟩) σ H Q q'

theorem le_chn {wa wb wc : WE} {o o' : CmpOp} (σ : L2.St) (H : Hp) (Q : VK)
    (q : LE X W (fun σz h F E => wa σz h (fun x h1 => wb σz h1 (fun y h2 => cmpW o x y h2 fun t => if t = true then wc σz h2 (fun z h3 => cmpW o' y z h3 fun u => F (.bl u) h3) E else F (.bl false) h2) E) E) σ H Q) :
    tChain (LR2 X (cmpO o)) (LR2 X (cmpO o')) (LE X W wa) (LE X W wb) (LE X W wc) σ H Q := by
  obtain ⟨ρ, σz, h, F, E, s, kq, kx, w⟩ := q
  refine ⟨ρ, σz, h, _, E, s, fun x h1 ρ1 H1 v n1 r1 p1 w1 => ?_, kx, w⟩
  refine ⟨ρ1, σz, h1, _, E, s.nx n1 r1, fun y h2 ρ2 H2 u n2 r2 p2 w2 => ?_, kx.nx n1, w1⟩
  refine ⟨ρ2, h2, x, y, fun z h3 => match z with | .bl t => if t = true then wc σz h3 (fun z h4 => cmpW o' y z h4 fun u => F (.bl u) h4) E else F (.bl false) h3 | _ => False, r2, p1.nx r1 n2, p2, fun z h3 ρ3 H3 zv n3 r3 p3 w3 => ?_, w2⟩
  cases z with
  | bl t =>
    obtain rfl := p3
    refine ⟨t, rfl, ?_⟩
    have n13 := n1.trans (n2.trans n3)
    cases t with
    | true =>
      refine iteT ⟨ρ3, σz, h3, _, E, (s.nx n1 r1).nx (n2.trans n3) r3, fun z h4 ρ4 H4 zv n4 r4 p4 w4 => ?_, kx.nx n13, w3⟩
      exact ⟨ρ4, h4, y, z, F, r4, (p2.nx r2 n3).nx r3 n4, p4, kq.nx (n13.trans n4), w4⟩
    | false => exact iteF ((kq.nx n13).bl r3 w3)
  | _ => exact w3.elim
theorem ze_chn {Γ : List Spec} {x y z : Ex} {o o' : CmpOp} (hu : X.A.units + 65 < cLine) (ha : PE X a (LE X W (wE Γ x))) (hb : PE X b (LE X W (wE Γ y))) (hc : PE X c (LE X W (wE Γ z))) (hm : lastMarks [o, o'] [b, c] = false) : PE X (.Compare a [o, o'] [b, c] pos) (LE X W (wE Γ (.chn o o' x y z))) := by
  refine pe_imp (pe_chain (or_cmp hu o) (or_cmp hu o') ha hb hc hm) fun σ H Q q => ?_
  refine le_chn σ H Q ?_
  obtain ⟨ρ, σz, h, F, E, s, kq, kx, w⟩ := q
  unfold wE at w
  exact ⟨ρ, σz, h, F, E, s, kq, kx, w⟩

theorem le_chn3 {wa wb wc wd : WE} {o o' o'' : CmpOp} (σ : L2.St) (H : Hp) (Q : VK)
    (q : LE X W (fun σz h F E => wa σz h (fun x h1 => wb σz h1 (fun y h2 => cmpW o x y h2 fun t => if t = true then wc σz h2 (fun z h3 => cmpW o' y z h3 fun u => if u = true then wd σz h3 (fun w h4 => cmpW o'' z w h4 fun u => F (.bl u) h4) E else F (.bl false) h3) E else F (.bl false) h2) E) E) σ H Q) :
    Zh.tChain3 (LR2 X (cmpO o)) (LR2 X (cmpO o')) (LR2 X (cmpO o'')) (LE X W wa) (LE X W wb) (LE X W wc) (LE X W wd) σ H Q := by
  obtain ⟨ρ, σz, h, F, E, s, kq, kx, w⟩ := q
  refine ⟨ρ, σz, h, _, E, s, fun x h1 ρ1 H1 v n1 r1 p1 w1 => ?_, kx, w⟩
  refine ⟨ρ1, σz, h1, _, E, s.nx n1 r1, fun y h2 ρ2 H2 u n2 r2 p2 w2 => ?_, kx.nx n1, w1⟩
  refine ⟨ρ2, h2, x, y, fun z h3 => match z with | .bl t => if t = true then wc σz h3 (fun z h4 => cmpW o' y z h4 fun u => if u = true then wd σz h4 (fun w h5 => cmpW o'' z w h5 fun u => F (.bl u) h5) E else F (.bl false) h4) E else F (.bl false) h3 | _ => False, r2, p1.nx r1 n2, p2, fun z h3 ρ3 H3 zv n3 r3 p3 w3 => ?_, w2⟩
  cases z with
  | bl t =>
    obtain rfl := p3
    refine ⟨t, rfl, ?_⟩
    have n13 := n1.trans (n2.trans n3)
    cases t with
    | true =>
      refine iteT ⟨ρ3, σz, h3, _, E, (s.nx n1 r1).nx (n2.trans n3) r3, fun z h4 ρ4 H4 zv n4 r4 p4 w4 => ?_, kx.nx n13, w3⟩
      refine ⟨ρ4, h4, y, z, fun z' h5 => match z' with | .bl t => if t = true then wd σz h5 (fun w h5 => cmpW o'' z w h5 fun u => F (.bl u) h5) E else F (.bl false) h5 | _ => False, r4, (p2.nx r2 n3).nx r3 n4, p4, fun z' h5 ρ5 H5 zv5 n5 r5 p5 w5 => ?_, w4⟩
      cases z' with
      | bl t =>
        obtain rfl := p5
        refine ⟨t, rfl, ?_⟩
        have n15 := n13.trans (n4.trans n5)
        cases t with
        | true =>
          refine iteT ⟨ρ5, σz, h5, _, E, ((s.nx n1 r1).nx (n2.trans n3) r3).nx (n4.trans n5) r5, fun z6 h6 ρ6 H6 zv6 n6 r6 p6 w6 => ?_, kx.nx n15, w5⟩
          exact ⟨ρ6, h6, z, z6, F, r6, (p4.nx r4 n5).nx r5 n6, p6, kq.nx (n15.trans n6), w6⟩
        | false => exact iteF ((kq.nx n15).bl r5 w5)
      | _ => exact w5.elim
    | false => exact iteF ((kq.nx n13).bl r3 w3)
  | _ => exact w3.elim
theorem ze_chn3 {Γ : List Spec} {x y z w : Ex} {d : Expr} {o o' o'' : CmpOp} (hu : X.A.units + 65 < cLine) (ha : PE X a (LE X W (wE Γ x))) (hb : PE X b (LE X W (wE Γ y))) (hc : PE X c (LE X W (wE Γ z))) (hd : PE X d (LE X W (wE Γ w))) (hm : lastMarks [o, o', o''] [b, c, d] = false) : PE X (.Compare a [o, o', o''] [b, c, d] pos) (LE X W (wE Γ (.chn3 o o' o'' x y z w))) := by
  refine pe_imp (Zh.pe_chain3 (or_cmp hu o) (or_cmp hu o') (or_cmp hu o'') ha hb hc hd hm) fun σ H Q q => ?_
  refine le_chn3 σ H Q ?_
  obtain ⟨ρ, σz, h, F, E, s, kq, kx, w⟩ := q
  unfold wE at w
  exact ⟨ρ, σz, h, F, E, s, kq, kx, w⟩
theorem zt_chn3 {Γ : List Spec} {x y z w : Ex} {d : Expr} {o o' o'' : CmpOp} (hu : X.A.units + 65 < cLine) (ha : PE X a (LE X W (wE Γ x))) (hb : PE X b (LE X W (wE Γ y))) (hc : PE X c (LE X W (wE Γ z))) (hd : PE X d (LE X W (wE Γ w))) (hm : lastMarks [o, o', o''] [b, c, d] = false) : PT X (.Compare a [o, o', o''] [b, c, d] pos) (LT X W (wT Γ (.chn3 o o' o'' x y z w))) := by
  refine pt_imp (Zh.pt_chain3 (or_cmp hu o) (or_cmp hu o') (or_cmp hu o'') ha hb hc hd hm) fun σ H Q ⟨ρ, σz, h, F, E, s, kq, kx, w⟩ => ?_
  unfold wT wE at w
  refine le_chn3 σ H _ ⟨ρ, σz, h, fun z h1 => match z with | .bl b => F b h1 | _ => False, E, s, fun z h1 ρ1 H1 v n1 r1 p1 w1 => ?_, kx, w⟩
  cases z with
  | bl b => obtain rfl := p1; exact ⟨b, rfl, kq b h1 ρ1 H1 n1 r1 w1⟩
  | _ => exact w1.elim

/-! ### tests -/
/-- a value's truth, where the model asks no other way -/
theorem zt_of {Γ : List Spec} {x : Ex} (ha : PE X e (LE X W (wE Γ x))) (he : ∀ whole, isTrue e X.env whole = (do let v ← whole; standAt e.pos; holding [v] (truthy v))) : PT X e (LT X W (wT Γ x)) := by
  refine pt_imp (pt_truth ha he) fun σ H Q ⟨ρ, σz, h, F, E, s, kq, kx, w⟩ => ?_
  refine ⟨ρ, σz, h, _, E, s, fun y h1 ρ1 H1 v n1 r1 p1 w1 => ?_, kx, w⟩
  obtain ⟨k, t, w2⟩ := tru_of r1 p1 w1
  exact ⟨k, t, kq k h1 ρ1 H1 n1 r1 w2⟩
/-- a reading that ends in a bool -/
theorem lt_of_le {Γ : List Spec} {x : Ex} {t : TE} (k : ∀ σ H Q, LE X W (wE Γ x) σ H Q → t σ H Q) (σ : L2.St) (H : Hp) (Q : Bool → Hp → Prop) (q : LT X W (wT Γ x) σ H Q)
    (hb : ∀ σz h F E, wE Γ x σz h F E → wE Γ x σz h (fun y h1 => ∃ b, y = .bl b ∧ F (.bl b) h1) E) : tTest t σ H Q := by
  obtain ⟨ρ, σz, h, F, E, s, kq, kx, w⟩ := q
  refine k σ H _ ⟨ρ, σz, h, _, E, s, fun y h1 ρ1 H1 v n1 r1 p1 w1 => ?_, kx, hb σz h _ E w⟩
  obtain ⟨b, rfl, w1⟩ := w1
  obtain rfl := p1
  exact ⟨b, rfl, kq b h1 ρ1 H1 n1 r1 w1⟩
theorem zt_cmp {Γ : List Spec} {x y : Ex} {o : CmpOp} (hu : X.A.units + 65 < cLine) (ha : PE X a (LE X W (wE Γ x))) (hb : PE X b (LE X W (wE Γ y))) (hm : behindInMarks o b = false) : PT X (.Compare a [o] [b] pos) (LT X W (wT Γ (.cmp o x y))) := by
  refine pt_imp (pt_cmpR (or_cmp hu o) ha hb hm) fun σ H Q ⟨ρ, σz, h, F, E, s, kq, kx, w⟩ => ?_
  have q' : LE X W (fun σz h F E => wE Γ x σz h (fun x h1 => wE Γ y σz h1 (fun y h2 => cmpO o x y h2 F) E) E) σ H (fun z H' => ∃ k, z = .bl k ∧ Q k H') := by
    unfold wT wE at w
    refine ⟨ρ, σz, h, fun z h1 => match z with | .bl b => F b h1 | _ => False, E, s, fun z h1 ρ1 H1 v n1 r1 p1 w1 => ?_, kx, w⟩
    cases z with
    | bl b => obtain rfl := p1; exact ⟨b, rfl, kq b h1 ρ1 H1 n1 r1 w1⟩
    | _ => exact w1.elim
  exact le_two (fun ρ h H x y v u F Q r p1 p2 kq w => ⟨ρ, h, x, y, F, r, p1, p2, kq, w⟩) σ H _ q'
theorem zt_chn {Γ : List Spec} {x y z : Ex} {o o' : CmpOp} (hu : X.A.units + 65 < cLine) (ha : PE X a (LE X W (wE Γ x))) (hb : PE X b (LE X W (wE Γ y))) (hc : PE X c (LE X W (wE Γ z))) (hm : lastMarks [o, o'] [b, c] = false) : PT X (.Compare a [o, o'] [b, c] pos) (LT X W (wT Γ (.chn o o' x y z))) := by
  refine pt_imp (pt_chain (or_cmp hu o) (or_cmp hu o') ha hb hc hm) fun σ H Q ⟨ρ, σz, h, F, E, s, kq, kx, w⟩ => ?_
  unfold wT wE at w
  refine le_chn σ H _ ⟨ρ, σz, h, fun z h1 => match z with | .bl b => F b h1 | _ => False, E, s, fun z h1 ρ1 H1 v n1 r1 p1 w1 => ?_, kx, w⟩
  cases z with
  | bl b => obtain rfl := p1; exact ⟨b, rfl, kq b h1 ρ1 H1 n1 r1 w1⟩
  | _ => exact w1.elim
theorem zt_not {Γ : List Spec} {x : Ex} (ha : PT X a (LT X W (wT Γ x))) : PT X (.UnaryOp .Not a pos) (LT X W (wT Γ (.not x))) := by
  refine pt_imp (pt_not ha) fun σ H Q ⟨ρ, σz, h, F, E, s, kq, kx, w⟩ => ?_
  unfold wT wE at w
  exact ⟨ρ, σz, h, fun b h1 => F (!b) h1, E, s, fun b h1 ρ1 H1 n1 r1 w1 => kq (!b) h1 ρ1 H1 n1 r1 w1, kx, w⟩
/-- the truth of a value, where it has one -/
def truV (h : Hep) : PV → Option Bool
  | .non => some false
  | .bl b => some b
  | .int i => some (i != 0)
  | .str s => if s.length ≤ big then some ((s.length : Int) != 0) else none
  | .tup xs => some !xs.isEmpty
  | .ils xs => some !xs.isEmpty
  | .itp xs => some !xs.isEmpty
  | .ref r => match h[r]? with | some (.lst xs) => some !xs.isEmpty | _ => none
  | .exc _ _ _ => none
theorem truW_iff {h : Hep} {x : PV} {K : Bool → Prop} : truW h x K ↔ ∃ b, truV h x = some b ∧ K b := by
  cases x with
  | str s =>
    show (s.length ≤ big ∧ K ((s.length : Int) != 0)) ↔ ∃ b, (if s.length ≤ big then some ((s.length : Int) != 0) else none) = some b ∧ K b
    by_cases z : s.length ≤ big
    · rw [if_pos z]
      exact ⟨fun q => ⟨_, rfl, q.2⟩, fun ⟨b, e, q⟩ => ⟨z, by cases e; exact q⟩⟩
    · rw [if_neg z]
      exact ⟨fun q => absurd q.1 z, fun ⟨b, e, q⟩ => by cases e⟩
  | ref i =>
    show getL h i (fun xs => K (!xs.isEmpty)) ↔ ∃ b, (match h[i]? with | some (.lst xs) => some !xs.isEmpty | _ => none) = some b ∧ K b
    unfold getL
    cases g : h[i]? with
    | none => exact ⟨fun q => False.elim q, fun ⟨b, e, q⟩ => by cases e⟩
    | some o =>
      cases o with
      | lst xs => exact ⟨fun q => ⟨_, rfl, q⟩, fun ⟨b, e, q⟩ => by cases e; exact q⟩
      | _ => exact ⟨fun q => False.elim q, fun ⟨b, e, q⟩ => by cases e⟩
  | exc c ns xs => exact ⟨fun q => False.elim q, fun ⟨b, e, q⟩ => by cases e⟩
  | _ => exact ⟨fun q => ⟨_, rfl, q⟩, fun ⟨b, e, q⟩ => by cases e; exact q⟩
/-- what a test asks of a conjunction -/
theorem lt_and {Γ : List Spec} {x y : Ex} (σ : L2.St) (H : Hp) (Q : Bool → Hp → Prop) (q : LT X W (wT Γ (.and x y)) σ H Q) : tAnd (LT X W (wT Γ x)) (LT X W (wT Γ y)) σ H Q := by
  obtain ⟨ρ, σz, h, F, E, s, kq, kx, w⟩ := q
  unfold wT wE at w
  refine ⟨ρ, σz, h, fun t h1 => if t = true then wT Γ y σz h1 F E else F false h1, E, s, fun t h1 ρ1 H1 n1 r1 w1 => ?_, kx, ?_⟩
  · cases t with
    | true => exact iteT ⟨ρ1, σz, h1, F, E, s.nx n1 r1, fun b h2 ρ2 H2 n2 r2 w2 => kq b h2 ρ2 H2 (n1.trans n2) r2 w2, kx.nx n1, w1⟩
    | false => exact iteF (kq false h1 ρ1 H1 n1 r1 w1)
  · unfold wT
    refine cast (congrArg (fun z => wE Γ x σz h z E) ?_) w
    funext v h1
    refine propext ⟨fun q => ?_, fun q => ?_⟩
    · obtain ⟨b, e, q⟩ := truW_iff.mp q
      refine truW_iff.mpr ⟨b, e, ?_⟩
      cases b with
      | true => exact q
      | false =>
        rw [if_neg Bool.false_ne_true] at q
        obtain ⟨b2, e2, q2⟩ := truW_iff.mp (show truW h1 v (fun b => F b h1) from q)
        rw [e] at e2
        cases e2
        exact iteF q2
    · obtain ⟨b, e, q⟩ := truW_iff.mp q
      refine truW_iff.mpr ⟨b, e, ?_⟩
      cases b with
      | true => exact q
      | false =>
        rw [if_neg Bool.false_ne_true] at q
        exact iteF (truW_iff.mpr ⟨false, e, q⟩)
theorem lt_or {Γ : List Spec} {x y : Ex} (σ : L2.St) (H : Hp) (Q : Bool → Hp → Prop) (q : LT X W (wT Γ (.or x y)) σ H Q) : tOr (LT X W (wT Γ x)) (LT X W (wT Γ y)) σ H Q := by
  obtain ⟨ρ, σz, h, F, E, s, kq, kx, w⟩ := q
  unfold wT wE at w
  refine ⟨ρ, σz, h, fun t h1 => if t = true then F true h1 else wT Γ y σz h1 F E, E, s, fun t h1 ρ1 H1 n1 r1 w1 => ?_, kx, ?_⟩
  · cases t with
    | false => exact iteF ⟨ρ1, σz, h1, F, E, s.nx n1 r1, fun b h2 ρ2 H2 n2 r2 w2 => kq b h2 ρ2 H2 (n1.trans n2) r2 w2, kx.nx n1, w1⟩
    | true => exact iteT (kq true h1 ρ1 H1 n1 r1 w1)
  · unfold wT
    refine cast (congrArg (fun z => wE Γ x σz h z E) ?_) w
    funext v h1
    refine propext ⟨fun q => ?_, fun q => ?_⟩
    · obtain ⟨b, e, q⟩ := truW_iff.mp q
      refine truW_iff.mpr ⟨b, e, ?_⟩
      cases b with
      | false => exact q
      | true =>
        rw [if_pos rfl] at q
        obtain ⟨b2, e2, q2⟩ := truW_iff.mp (show truW h1 v (fun b => F b h1) from q)
        rw [e] at e2
        cases e2
        exact iteT q2
    · obtain ⟨b, e, q⟩ := truW_iff.mp q
      refine truW_iff.mpr ⟨b, e, ?_⟩
      cases b with
      | false => exact q
      | true =>
        rw [if_pos rfl] at q
        exact iteT (truW_iff.mpr ⟨true, e, q⟩)
theorem zw_and {Γ : List Spec} {x y : Ex} {r : List Expr} (ha : PT X a (LT X W (wT Γ x))) (hb : PW X (.BoolOp .And (b :: r) pos) (LT X W (wT Γ y))) : PW X (.BoolOp .And (a :: b :: r) pos) (LT X W (wT Γ (.and x y))) := pw_imp (pw_and ha hb) lt_and
theorem zw_or {Γ : List Spec} {x y : Ex} {r : List Expr} (ha : PT X a (LT X W (wT Γ x))) (hb : PW X (.BoolOp .Or (b :: r) pos) (LT X W (wT Γ y))) : PW X (.BoolOp .Or (a :: b :: r) pos) (LT X W (wT Γ (.or x y))) := pw_imp (pw_or ha hb) lt_or
theorem zt_ife {Γ : List Spec} {x y z : Ex} (hc : PT X c (LT X W (wT Γ x))) (ha : PT X a (LT X W (wT Γ y))) (hb : PT X b (LT X W (wT Γ z))) : PT X (.IfExp c a b pos) (LT X W (wT Γ (.ife x y z))) := by
  refine ⟨fun pins s σ H Q I ⟨ρ, σz, h, F, E, sr, kq, kx, w⟩ => ?_⟩
  unfold wT wE at w
  refine isTrue_IfExp (thn (hc.run pins s σ H (fun t H1 => if t = true then LT X W (wT Γ y) σ H1 Q else LT X W (wT Γ z) σ H1 Q) I ⟨ρ, σz, h, fun t h1 => if t = true then wT Γ y σz h1 F E else wT Γ z σz h1 F E, E, sr, fun t h1 ρ1 H1 n1 r1 w1 => ?_, kx, w⟩) fun t s1 ⟨H1, I1, q1⟩ => ?_)
  · cases t with
    | true => exact iteT ⟨ρ1, σz, h1, F, E, sr.nx n1 r1, fun b h2 ρ2 H2 n2 r2 w2 => kq b h2 ρ2 H2 (n1.trans n2) r2 w2, kx.nx n1, w1⟩
    | false => exact iteF ⟨ρ1, σz, h1, F, E, sr.nx n1 r1, fun b h2 ρ2 H2 n2 r2 w2 => kq b h2 ρ2 H2 (n1.trans n2) r2 w2, kx.nx n1, w1⟩
  · cases t with
    | true => exact ha.run pins s1 σ H1 Q I1 q1
    | false => exact hb.run pins s1 σ H1 Q I1 q1
end
end Z

/-! ZsF: subscripts, built-ins and methods by values, calls of defs. -/
namespace Z
open PySem PyProof.Rows L2

section
variable {X : Cx} {W : WX} {e a b c : Expr} {es : List Expr} {pos : Pos}

/-! ### subscripts, slices -/
theorem ze_idx {Γ : List Spec} {x y : Ex} (hu : X.A.units + 1 < cLine) (ha : PE X a (LE X W (wE Γ x))) (hb : PE X b (LE X W (wE Γ y))) (hs : PlainIx b) : PE X (.Subscript a b pos) (LE X W (wE Γ (.idx x y))) := by
  refine pe_imp (pe_ix (ix_all hu) ha hb hs) fun σ H Q q => ?_
  have q' : LE X W (fun σz h F E => wE Γ x σz h (fun x h1 => wE Γ y σz h1 (fun y h2 => itemW x y h2 F) E) E) σ H Q := by
    obtain ⟨ρ, σz, h, F, E, s, kq, kx, w⟩ := q
    unfold wE at w
    exact ⟨ρ, σz, h, F, E, s, kq, kx, w⟩
  exact le_two (fun ρ h H x y v u F Q r p1 p2 kq w => ⟨ρ, h, x, y, F, r, p1, p2, kq, w⟩) σ H Q q'
theorem zo_none {Γ : List Spec} : PO X none (LO X W (wO Γ none)) := ⟨fun pins s σ H Q I ⟨ρ, σz, h, F, E, sr, kq, kx, w⟩ => po_none.run pins s σ H Q I (by
  unfold wO at w
  exact kq none h ρ H Nx.refl sr.hr w)⟩
theorem zo_some {Γ : List Spec} {x : Ex} (ha : PE X a (LE X W (wE Γ x))) : PO X (some a) (LO X W (wO Γ (some x))) := ⟨fun pins s σ H Q I ⟨ρ, σz, h, F, E, sr, kq, kx, w⟩ => (po_some ha).run pins s σ H Q I (by
  unfold wO at w
  refine ⟨ρ, σz, h, _, E, sr, fun y h1 ρ1 H1 v n1 r1 p1 w1 => ?_, kx, w⟩
  split at w1
  · obtain rfl := p1
    exact ⟨_, rfl, kq _ h1 ρ1 H1 n1 r1 w1⟩
  · exact w1.elim)⟩
theorem ze_slc {Γ : List Spec} {x : Ex} {l u : Option Ex} {lo hi : Option Expr} {p2 : Pos} (ha : PE X a (LE X W (wE Γ x))) (hl : PO X lo (LO X W (wO Γ l))) (hu : PO X hi (LO X W (wO Γ u))) : PE X (.Subscript a (.Slice lo hi none p2) pos) (LE X W (wE Γ (.slc x l u))) := by
  refine pe_imp (pe_slice sl_all ha hl hu) fun σ H Q ⟨ρ, σz, h, F, E, s, kq, kx, w⟩ => ?_
  unfold wE at w
  refine ⟨ρ, σz, h, _, E, s, fun y h1 ρ1 H1 v n1 r1 p1 w1 => ?_, kx, w⟩
  refine ⟨ρ1, σz, h1, _, E, s.nx n1 r1, fun o h2 ρ2 H2 n2 r2 w2 => ?_, kx.nx n1, w1⟩
  refine ⟨ρ2, σz, h2, _, E, (s.nx n1 r1).nx n2 r2, fun o' h3 ρ3 H3 n3 r3 w3 => ?_, (kx.nx n1).nx n2, w2⟩
  exact ⟨ρ3, h3, y, F, r3, (p1.nx r1 n2).nx r2 n3, kq.nx (n1.trans (n2.trans n3)), w3⟩

/-! ### built-ins by values -/
def LRC (X : Cx) (op : List PV → Hep → KQ → Prop) : List V → Hp → VK → Prop := fun vs H Q => ∃ (ρ : List Addr) (h : Hep) (xs : List PV) (F : KQ), HR X.K X.mg ρ h H ∧ Reps X.K ρ H xs vs ∧ KQok X ρ H F Q ∧ op xs h F
theorem callr_imp {f : Value} {r r' : List V → Hp → VK → Prop} (h : CallR X f r) (k : ∀ vs H Q, r' vs H Q → r vs H Q) : CallR X f r' := fun pins s σ H xs us Q I rs q => h pins s σ H xs us Q I rs (k _ _ _ q)
theorem reps1 {ρ : List Addr} {H : Hp} {x : PV} {vs : List V} (q : Reps X.K ρ H [x] vs) : ∃ v, vs = [v] ∧ Rep X.K ρ H x v := by
  obtain ⟨v, r, rfl, p, t⟩ := q
  cases t
  exact ⟨v, rfl, p⟩
theorem reps2 {ρ : List Addr} {H : Hp} {x y : PV} {vs : List V} (q : Reps X.K ρ H [x, y] vs) : ∃ v u, vs = [v, u] ∧ Rep X.K ρ H x v ∧ Rep X.K ρ H y u := by
  obtain ⟨v, r, rfl, p, t⟩ := q
  obtain ⟨u, rfl, p2⟩ := reps1 t
  exact ⟨v, u, rfl, p, p2⟩
theorem listW_some {ρ : List Addr} {h : Hep} {H : Hp} {x : PV} {v : V} {F : List PV → Prop} (r : HR X.K X.mg ρ h H) (p : Rep X.K ρ H x v) (w : listW h x F) : ∃ a vs xs, v = .ref a ∧ SqL X.K H a vs ∧ Reps X.K ρ H xs vs ∧ F xs := by
  unfold listW at w
  split at w
  · obtain ⟨xs, e, w⟩ := getL_some w
    obtain ⟨a, e1, rfl⟩ := p
    obtain ⟨b, vs, e2, k, ps⟩ := r.lst e
    rw [e1] at e2; cases e2
    exact ⟨a, vs, xs, rfl, SqL.of k, ps, w⟩
  · obtain ⟨a, vs, rfl, t, ps⟩ := p
    exact ⟨a, vs, _, rfl, t.sq, ps, w⟩
  · exact w.elim
theorem seqW_some {ρ : List Addr} {h : Hep} {H : Hp} {x : PV} {v : V} {F : List PV → Prop} (r : HR X.K X.mg ρ h H) (p : Rep X.K ρ H x v) (w : seqW h x F) : ∃ a vs xs, v = .ref a ∧ (SqL X.K H a vs ∨ SqT X.K H a vs) ∧ Reps X.K ρ H xs vs ∧ F xs := by
  unfold seqW at w
  split at w
  · obtain ⟨xs, e, w⟩ := getL_some w
    obtain ⟨a, e1, rfl⟩ := p
    obtain ⟨b, vs, e2, k, ps⟩ := r.lst e
    rw [e1] at e2; cases e2
    exact ⟨a, vs, xs, rfl, .inl (SqL.of k), ps, w⟩
  · obtain ⟨a, vs, rfl, t, ps⟩ := p
    exact ⟨a, vs, _, rfl, .inl t.sq, ps, w⟩
  · obtain ⟨a, vs, rfl, t, ps⟩ := p
    exact ⟨a, vs, _, rfl, .inr t.sq, ps, w⟩
  · obtain ⟨a, vs, rfl, t, ps⟩ := p
    exact ⟨a, vs, _, rfl, .inr t.sq, ps, w⟩
  · exact w.elim

theorem cb_len : CallR X (.builtin "len") (LRC X (biW .len)) := by
  intro pins s σ H vs us Q I rs q
  obtain ⟨ρ, h, xs, F, r, ps, kq, w⟩ := q
  match xs, w with
  | [.str z], ⟨l, w⟩ =>
    obtain ⟨v, rfl, p⟩ := reps1 ps
    obtain rfl := p
    exact call_len_str pins s σ H _ us Q I rs ⟨z, rfl, by rw [← big_eq]; exact l, kq.int r w⟩
  | [.tup ys], w =>
    obtain ⟨v, rfl, p⟩ := reps1 ps
    obtain ⟨a, vs, rfl, t, ps⟩ := p
    exact call_len_seq pins s σ H _ us Q I rs ⟨a, vs, rfl, .inr t.sq, by rw [← ps.len]; exact kq.int r w⟩
  | [.itp ys], w =>
    obtain ⟨v, rfl, p⟩ := reps1 ps
    obtain ⟨a, vs, rfl, t, ps⟩ := p
    exact call_len_seq pins s σ H _ us Q I rs ⟨a, vs, rfl, .inr t.sq, by rw [← ps.len]; exact kq.int r w⟩
  | [.ils ys], w =>
    obtain ⟨v, rfl, p⟩ := reps1 ps
    obtain ⟨a, vs, rfl, t, ps⟩ := p
    exact call_len_seq pins s σ H _ us Q I rs ⟨a, vs, rfl, .inl t.sq, by rw [← ps.len]; exact kq.int r w⟩
  | [.ref i], w =>
    obtain ⟨v, rfl, p⟩ := reps1 ps
    obtain ⟨ys, e, w⟩ := getL_some (show getL h i _ from w)
    obtain ⟨a, e1, rfl⟩ := p
    obtain ⟨b, ws, e2, k, ps⟩ := r.lst e
    rw [e1] at e2; cases e2
    exact call_len_seq pins s σ H _ us Q I rs ⟨a, ws, rfl, .inl (SqL.of k), by rw [← ps.len]; exact kq.int r w⟩
theorem max_ite (i j : Int) : max i j = if j > i then j else i := by
  by_cases h : j > i
  · rw [if_pos h]; omega
  · rw [if_neg h]; omega
theorem min_ite (i j : Int) : min i j = if j < i then j else i := by
  by_cases h : j < i
  · rw [if_pos h]; omega
  · rw [if_neg h]; omega
theorem cb_max2 (hc : X.calm = true) : CallR X (.builtin "max") (LRC X (biW .max2)) := callr_imp (call_max2 hc) fun vs H Q q => by
  obtain ⟨ρ, h, xs, F, r, ps, kq, w⟩ := q
  match xs, w with
  | [.int i, .int j], w =>
    obtain ⟨v, u, rfl, p1, p2⟩ := reps2 ps
    obtain rfl := p1
    obtain rfl := p2
    exact ⟨i, j, rfl, by rw [← max_ite]; exact kq.int r w⟩
theorem cb_min2 (hc : X.calm = true) : CallR X (.builtin "min") (LRC X (biW .min2)) := callr_imp (call_min2 hc) fun vs H Q q => by
  obtain ⟨ρ, h, xs, F, r, ps, kq, w⟩ := q
  match xs, w with
  | [.int i, .int j], w =>
    obtain ⟨v, u, rfl, p1, p2⟩ := reps2 ps
    obtain rfl := p1
    obtain rfl := p2
    exact ⟨i, j, rfl, by rw [← min_ite]; exact kq.int r w⟩
theorem reps3 {ρ : List Addr} {H : Hp} {x y z : PV} {vs : List V} (q : Reps X.K ρ H [x, y, z] vs) : ∃ v u w, vs = [v, u, w] ∧ Rep X.K ρ H x v ∧ Rep X.K ρ H y u ∧ Rep X.K ρ H z w := by
  obtain ⟨v, r, rfl, p, t⟩ := q
  obtain ⟨u, w, rfl, p2, p3⟩ := reps2 t
  exact ⟨v, u, w, rfl, p, p2, p3⟩
theorem nuLt_int (i j : Int) : nuLt (.int i) (.int j) = some (decide (i < j)) := rfl
theorem nuMax2_int (i j : Int) : nuMax2 (.int i) (.int j) = some (.int (max i j)) := by
  unfold nuMax2
  rw [nuLt_int, Option.map_some]
  congr 1
  by_cases c : i < j
  · rw [if_pos (by simpa using c)]; congr 1; omega
  · rw [if_neg (by simpa using c)]; congr 1; omega
theorem nuMin2_int (i j : Int) : nuMin2 (.int i) (.int j) = some (.int (min i j)) := by
  unfold nuMin2
  rw [nuLt_int, Option.map_some]
  congr 1
  by_cases c : j < i
  · rw [if_pos (by simpa using c)]; congr 1; omega
  · rw [if_neg (by simpa using c)]; congr 1; omega
theorem cb_max3 (hc : X.calm = true) : CallR X (.builtin "max") (LRC X (biW .max3)) := callr_imp (call_max3Nu hc) fun vs H Q q => by
  obtain ⟨ρ, h, xs, F, r, ps, kq, w⟩ := q
  match xs, w with
  | [.int i, .int j, .int k], w =>
    obtain ⟨v, u, t, rfl, p1, p2, p3⟩ := reps3 ps
    obtain rfl := p1
    obtain rfl := p2
    obtain rfl := p3
    exact ⟨_, _, _, _, rfl, by unfold nuMax3; rw [nuMax2_int, Option.bind_some, nuMax2_int], kq.int r w⟩
theorem cb_min3 (hc : X.calm = true) : CallR X (.builtin "min") (LRC X (biW .min3)) := callr_imp (call_min3Nu hc) fun vs H Q q => by
  obtain ⟨ρ, h, xs, F, r, ps, kq, w⟩ := q
  match xs, w with
  | [.int i, .int j, .int k], w =>
    obtain ⟨v, u, t, rfl, p1, p2, p3⟩ := reps3 ps
    obtain rfl := p1
    obtain rfl := p2
    obtain rfl := p3
    exact ⟨_, _, _, _, rfl, by unfold nuMin3; rw [nuMin2_int, Option.bind_some, nuMin2_int], kq.int r w⟩
theorem maxL_mem : ∀ ns : List Int, ns ≠ [] → maxL ns ∈ ns ∧ ∀ y ∈ ns, y ≤ maxL ns
  | [], h => absurd rfl h
  | [x], _ => ⟨by simp [maxL], fun y hy => by simp [maxL] at hy ⊢; omega⟩
  | x :: y :: r, _ => by
    obtain ⟨h1, h2⟩ := maxL_mem (y :: r) (by simp)
    have e : maxL (x :: y :: r) = max x (maxL (y :: r)) := rfl
    refine ⟨?_, fun z hz => ?_⟩
    · rw [e]
      by_cases hx : x ≤ maxL (y :: r)
      · rw [Int.max_eq_right hx]; exact List.mem_cons_of_mem _ h1
      · rw [Int.max_eq_left (by omega)]; exact List.mem_cons_self
    · rw [e]
      rcases List.mem_cons.mp hz with rfl | hz
      · omega
      · have := h2 z hz; omega
theorem minL_mem : ∀ ns : List Int, ns ≠ [] → minL ns ∈ ns ∧ ∀ y ∈ ns, minL ns ≤ y
  | [], h => absurd rfl h
  | [x], _ => ⟨by simp [minL], fun y hy => by simp [minL] at hy ⊢; omega⟩
  | x :: y :: r, _ => by
    obtain ⟨h1, h2⟩ := minL_mem (y :: r) (by simp)
    have e : minL (x :: y :: r) = min x (minL (y :: r)) := rfl
    refine ⟨?_, fun z hz => ?_⟩
    · rw [e]
      by_cases hx : minL (y :: r) ≤ x
      · rw [Int.min_eq_right hx]; exact List.mem_cons_of_mem _ h1
      · rw [Int.min_eq_left (by omega)]; exact List.mem_cons_self
    · rw [e]
      rcases List.mem_cons.mp hz with rfl | hz
      · omega
      · have := h2 z hz; omega
theorem cr_maxT (hc : X.calm = true) (hu : X.A.units + 65 < cLine) : CallR X (.builtin "max") (fun vs H Q => ∃ (a : Addr) (ns : List Int), vs = [V.ref a] ∧ SqT X.K H a (ns.map V.int) ∧ ns ≠ [] ∧ Q (.int (maxL ns)) H) := by
  intro pins s σ H vs us Q I r h
  obtain ⟨a, ns, rfl, hs, hne, q⟩ := h
  obtain ⟨its, rv, hl, _⟩ := I.tuple hs
  rw [Vals.ref1 r]
  obtain ⟨n, r, rfl⟩ : ∃ n r, ns = n :: r := by
    cases ns with
    | nil => exact absurd rfl hne
    | cons n r => exact ⟨n, r, rfl⟩
  have al : PySem.W.AlikeAll (PyData.int n :: r.map PyData.int) := by
    refine ⟨fun x hx y hy => ?_, fun x hx => ?_⟩
    · have hx : x ∈ (n :: r).map PyData.int := hx
      have hy : y ∈ (n :: r).map PyData.int := hy
      obtain ⟨i, _, rfl⟩ := List.mem_map.mp hx
      obtain ⟨j, _, rfl⟩ := List.mem_map.mp hy
      rfl
    · have hx : x ∈ (n :: r).map PyData.int := hx
      obtain ⟨i, _, rfl⟩ := List.mem_map.mp hx
      intro e; cases e
  have dp : ∀ l : List Int, PyData.depthAll (l.map PyData.int) = 0 := fun l => by
    induction l with
    | nil => rfl
    | cons x l ih =>
      show max 0 (PyData.depthAll (l.map PyData.int)) = 0
      rw [ih]; rfl
  have dp2 : PyData.depthAll (PyData.int n :: r.map PyData.int) = 0 := dp (n :: r)
  refine PySem.W.max_tuple_data (x := .int n) (xs := r.map .int) (I.ok.hd hc) hl (rv.ints.reads _) al (by rw [dp2]; omega) fun i v h' tk bs hi rd hk => ?_
  rw [PySem.W.maxD_ints] at rd
  have e : r.foldl max n = maxL (n :: r) := by
    have : ∀ (l : List Int) (m : Int), l.foldl max m = maxL (m :: l) := fun l => by
      induction l with
      | nil => intro m; rfl
      | cons x l ih =>
        intro m
        rw [List.foldl_cons, ih]
        show maxL (max m x :: l) = max m (maxL (x :: l))
        cases l with
        | nil => rfl
        | cons y l =>
          show max (max m x) (maxL (y :: l)) = max m (max x (maxL (y :: l)))
          omega
    exact this r n
  rw [e] at rd
  obtain ⟨t, rfl⟩ : ∃ t, v = Value.int (maxL (n :: r)) t := by cases rd; exact ⟨_, rfl⟩
  exact ⟨.int _, H, I.kept hk, ⟨_, rfl⟩, q⟩
theorem cb_maxl (hc : X.calm = true) (hu : X.A.units + 65 < cLine) : CallR X (.builtin "max") (LRC X (biW .maxl)) := by
  intro pins s σ H vs us Q I rs q
  obtain ⟨ρ, h, xs, F, r, ps, kq, w⟩ := q
  match xs, w with
  | [x], w =>
    obtain ⟨v, rfl, p⟩ := reps1 ps
    obtain ⟨a, vs, ys, rfl, sq, ps, ns, e, hn, w⟩ := seqW_some r p w
    obtain rfl := ps.ints e
    rcases sq with sq | sq
    · refine cr_max hc pins s σ H _ us Q I rs ⟨a, ns, rfl, sq, List.length_pos_iff.mpr hn, fun m h1 h2 => ?_⟩
      obtain ⟨g1, g2⟩ := maxL_mem ns hn
      have : m = maxL ns := by have := h2 _ g1; have := g2 _ h1; omega
      subst this
      exact kq.int r w
    · exact cr_maxT hc hu pins s σ H _ us Q I rs ⟨a, ns, rfl, sq, hn, kq.int r w⟩
theorem cr_minT (hc : X.calm = true) (hu : X.A.units + 65 < cLine) : CallR X (.builtin "min") (fun vs H Q => ∃ (a : Addr) (ns : List Int), vs = [V.ref a] ∧ SqT X.K H a (ns.map V.int) ∧ ns ≠ [] ∧ Q (.int (minL ns)) H) := by
  intro pins s σ H vs us Q I r h
  obtain ⟨a, ns, rfl, hs, hne, q⟩ := h
  obtain ⟨its, rv, hl, _⟩ := I.tuple hs
  rw [Vals.ref1 r]
  obtain ⟨n, r, rfl⟩ : ∃ n r, ns = n :: r := by
    cases ns with
    | nil => exact absurd rfl hne
    | cons n r => exact ⟨n, r, rfl⟩
  have al : PySem.W.AlikeAll (PyData.int n :: r.map PyData.int) := by
    refine ⟨fun x hx y hy => ?_, fun x hx => ?_⟩
    · have hx : x ∈ (n :: r).map PyData.int := hx
      have hy : y ∈ (n :: r).map PyData.int := hy
      obtain ⟨i, _, rfl⟩ := List.mem_map.mp hx
      obtain ⟨j, _, rfl⟩ := List.mem_map.mp hy
      rfl
    · have hx : x ∈ (n :: r).map PyData.int := hx
      obtain ⟨i, _, rfl⟩ := List.mem_map.mp hx
      intro e; cases e
  have dp : ∀ l : List Int, PyData.depthAll (l.map PyData.int) = 0 := fun l => by
    induction l with
    | nil => rfl
    | cons x l ih =>
      show max 0 (PyData.depthAll (l.map PyData.int)) = 0
      rw [ih]; rfl
  have dp2 : PyData.depthAll (PyData.int n :: r.map PyData.int) = 0 := dp (n :: r)
  refine PySem.W.min_tuple_data (x := .int n) (xs := r.map .int) (I.ok.hd hc) hl (rv.ints.reads _) al (by rw [dp2]; omega) fun i v h' tk bs hi rd hk => ?_
  rw [PySem.W.minD_ints] at rd
  have e : r.foldl min n = minL (n :: r) := by
    have : ∀ (l : List Int) (m : Int), l.foldl min m = minL (m :: l) := fun l => by
      induction l with
      | nil => intro m; rfl
      | cons x l ih =>
        intro m
        rw [List.foldl_cons, ih]
        show minL (min m x :: l) = min m (minL (x :: l))
        cases l with
        | nil => rfl
        | cons y l =>
          show min (min m x) (minL (y :: l)) = min m (min x (minL (y :: l)))
          omega
    exact this r n
  rw [e] at rd
  obtain ⟨t, rfl⟩ : ∃ t, v = Value.int (minL (n :: r)) t := by cases rd; exact ⟨_, rfl⟩
  exact ⟨.int _, H, I.kept hk, ⟨_, rfl⟩, q⟩
theorem cb_minl (hc : X.calm = true) (hu : X.A.units + 65 < cLine) : CallR X (.builtin "min") (LRC X (biW .minl)) := by
  intro pins s σ H vs us Q I rs q
  obtain ⟨ρ, h, xs, F, r, ps, kq, w⟩ := q
  match xs, w with
  | [x], w =>
    obtain ⟨v, rfl, p⟩ := reps1 ps
    obtain ⟨a, vs, ys, rfl, sq, ps, ns, e, hn, w⟩ := seqW_some r p w
    obtain rfl := ps.ints e
    rcases sq with sq | sq
    · refine cr_min hc pins s σ H _ us Q I rs ⟨a, ns, rfl, sq, List.length_pos_iff.mpr hn, fun m h1 h2 => ?_⟩
      obtain ⟨g1, g2⟩ := minL_mem ns hn
      have : m = minL ns := by have := h2 _ g1; have := g2 _ h1; omega
      subst this
      exact kq.int r w
    · exact cr_minT hc hu pins s σ H _ us Q I rs ⟨a, ns, rfl, sq, hn, kq.int r w⟩
theorem cb_sum (hc : X.calm = true) : CallR X (.builtin "sum") (LRC X (biW .sum)) := callr_imp (cr_sum hc) fun vs H Q q => by
  obtain ⟨ρ, h, xs, F, r, ps, kq, w⟩ := q
  match xs, w with
  | [x], w =>
    obtain ⟨v, rfl, p⟩ := reps1 ps
    obtain ⟨a, vs, ys, rfl, sq, ps, ns, e, w⟩ := listW_some r p w
    obtain rfl := ps.ints e
    exact ⟨a, ns, rfl, sq, kq.int r w⟩
theorem cb_all (hc : X.calm = true) : CallR X (.builtin "all") (LRC X (biW .all)) := callr_imp (cr_all hc) fun vs H Q q => by
  obtain ⟨ρ, h, xs, F, r, ps, kq, w⟩ := q
  match xs, w with
  | [x], w =>
    obtain ⟨v, rfl, p⟩ := reps1 ps
    obtain ⟨a, vs, ys, rfl, sq, ps, ns, e, w⟩ := listW_some r p w
    obtain rfl := ps.bools e
    exact ⟨a, ns, rfl, sq, kq.bl r w⟩
theorem cb_any (hc : X.calm = true) : CallR X (.builtin "any") (LRC X (biW .any)) := callr_imp (cr_any hc) fun vs H Q q => by
  obtain ⟨ρ, h, xs, F, r, ps, kq, w⟩ := q
  match xs, w with
  | [x], w =>
    obtain ⟨v, rfl, p⟩ := reps1 ps
    obtain ⟨a, vs, ys, rfl, sq, ps, ns, e, w⟩ := listW_some r p w
    obtain rfl := ps.bools e
    exact ⟨a, ns, rfl, sq, kq.bl r w⟩
theorem cb_list : CallR X (.type "list") (LRC X (biW .list)) := callr_imp call_list_of fun vs H Q q => by
  obtain ⟨ρ, h, xs, F, r, ps, kq, w⟩ := q
  match xs, w with
  | [x], w =>
    obtain ⟨v, rfl, p⟩ := reps1 ps
    obtain ⟨a, vs, ys, rfl, sq, ps, w⟩ := seqW_some r p w
    exact ⟨a, vs, rfl, sq, fun l hl => kq.newL r ps w hl⟩
theorem callr_or {f : Value} {r r' : List V → Hp → VK → Prop} (h : CallR X f r) (k : CallR X f r') : CallR X f (fun vs H Q => r vs H Q ∨ r' vs H Q) := fun pins s σ H xs us Q I rs q => q.elim (h pins s σ H xs us Q I rs) (k pins s σ H xs us Q I rs)
theorem cb_int : CallR X (.type "int") (LRC X (biW .int)) := callr_imp (callr_or call_int1 call_int_str) fun vs H Q q => by
  obtain ⟨ρ, h, xs, F, r, ps, kq, w⟩ := q
  match xs, w with
  | [.int i], w =>
    obtain ⟨v, rfl, p⟩ := reps1 ps
    obtain rfl := p
    exact .inl (.inl ⟨i, rfl, kq.int r w⟩)
  | [.bl i], w =>
    obtain ⟨v, rfl, p⟩ := reps1 ps
    obtain rfl := p
    exact .inl (.inr ⟨i, rfl, kq.int r w⟩)
  | [.str a], w =>
    obtain ⟨v, rfl, p⟩ := reps1 ps
    obtain rfl := p
    obtain ⟨n, e, l, w⟩ := w
    exact .inr ⟨a, n, rfl, e, l, kq.int r w⟩
/-! ### dict(..) -/
theorem keyAtom_rep {K : PySem.W.Frag} {ρ : List Addr} {H : Hp} {x : PV} {v : V} {k : At} (e : keyAtom x = some k) (p : Rep K ρ H x v) : v = kV k := by
  cases x with
  | int i => simp [keyAtom] at e; subst e; exact p
  | str s => simp [keyAtom] at e; subst e; exact p
  | _ => simp [keyAtom] at e
def pair1 : PV → Option (PV × PV)
  | .tup [k, v] => some (k, v)
  | .itp [k, v] => some (k, v)
  | _ => none
theorem pairsOf_cons {y : PV} {ys : List PV} {ps : List (At × PV)} (e : pairsOf (y :: ys) = some ps) : ∃ k x a pt, pair1 y = some (k, x) ∧ keyAtom k = some a ∧ pairsOf ys = some pt ∧ ps = (a, x) :: pt := by
  unfold pairsOf at e
  split at e
  · rename_i eq; cases eq
  · rename_i k v r eq
    injection eq with e1 e2
    subst e1 e2
    split at e
    · rename_i a pt h1 h2
      cases e
      exact ⟨k, v, a, pt, rfl, h1, h2, rfl⟩
    · cases e
  · rename_i k v r eq
    injection eq with e1 e2
    subst e1 e2
    split at e
    · rename_i a pt h1 h2
      cases e
      exact ⟨k, v, a, pt, rfl, h1, h2, rfl⟩
    · cases e
  · cases e
theorem pair1_rep {K : PySem.W.Frag} {ρ : List Addr} {H : Hp} {y k x : PV} {v : V} (e : pair1 y = some (k, x)) (p : Rep K ρ H y v) : ∃ (a : Addr) (us : List V), v = .ref a ∧ SqT K H a us ∧ Reps K ρ H [k, x] us := by
  unfold pair1 at e
  split at e
  · cases e
    obtain ⟨a, us, ev, t, rr⟩ := p
    exact ⟨a, us, ev, t.sq, rr⟩
  · cases e
    obtain ⟨a, us, ev, t, rr⟩ := p
    exact ⟨a, us, ev, t.sq, rr⟩
  · cases e
theorem pairs_rep {K : PySem.W.Frag} {ρ : List Addr} {H : Hp} : ∀ {ys : List PV} {vs : List V} {ps : List (At × PV)}, pairsOf ys = some ps → Reps K ρ H ys vs →
    ∃ (as : List Addr) (kvs : List (Key × V)), vs = as.map V.ref ∧ Paired (fun p kv => SqT K H p [kV kv.1, kv.2]) as kvs ∧ RepD1 K ρ H (ps.map fun p => (Ky.one p.1, p.2)) kvs := by
  intro ys
  induction ys with
  | nil =>
    intro vs ps e q
    cases q
    simp only [pairsOf, Option.some.injEq] at e
    subst e
    exact ⟨[], [], rfl, .nil, rfl⟩
  | cons y ys ih =>
    intro vs ps e q
    obtain ⟨v, r, ev, p, q⟩ := q
    subst ev
    obtain ⟨k, x, ka, pt, e1, e2, e3, rfl⟩ := pairsOf_cons e
    obtain ⟨a, us, rfl, sq, rr⟩ := pair1_rep e1 p
    obtain ⟨as, kvs, e4, pd, rd⟩ := ih e3 q
    obtain ⟨kv, r1, eu, rk, xv, r2, eu2, rx, en⟩ := rr
    subst eu eu2
    cases en
    obtain rfl := keyAtom_rep e2 rk
    exact ⟨a :: as, (ka, xv) :: kvs, by rw [e4] <;> rfl, .cons sq pd, ⟨ka, xv, kvs, rfl, rfl, rx, rd⟩⟩
theorem d1_merge {X : Cx} {ρ : List Addr} {H : Hp} : ∀ {ps : List (At × PV)} {kvs : List (Key × V)} {acc : List (Ky × PV)} {ws : List (Key × V)}, RepD1 X.K ρ H (ps.map fun p => (Ky.one p.1, p.2)) kvs → RepD1 X.K ρ H acc ws → RepD1 X.K ρ H (dputs acc ps) (mergeK ws kvs) := by
  intro ps
  induction ps with
  | nil => intro kvs acc ws q a; cases q; exact a
  | cons p ps ih =>
    intro kvs acc ws q a
    obtain ⟨k, x⟩ := p
    obtain ⟨j, v, r, e, e2, p, t⟩ := q
    subst e
    cases e2
    exact (ih t (d1_put k p a) : RepD1 X.K ρ H (dputs (dput (.one k) x acc) ps) (mergeK (putK ws k v) r))
theorem pairW_some {h : Hep} {ρ : List Addr} {H : Hp} {x : PV} {v : V} {F : List PV → Prop} (r : HR X.K X.mg ρ h H) (p : Rep X.K ρ H x v) (w : pairW h x F) : ∃ a vs ys, v = .ref a ∧ (SqL X.K H a vs ∨ Zh.Whole X.K H a vs) ∧ Reps X.K ρ H ys vs ∧ F ys := by
  cases x with
  | ref i =>
    obtain ⟨ys, e, w⟩ := getL_some (show getL h i F from w)
    obtain ⟨a, e1, rfl⟩ := p
    obtain ⟨b, vs, e2, k, ps⟩ := r.lst e
    rw [e1] at e2; cases e2
    exact ⟨a, vs, ys, rfl, .inl (SqL.of k), ps, w⟩
  | ils ys =>
    obtain ⟨a, vs, rfl, t, ps⟩ := p
    exact ⟨a, vs, ys, rfl, .inl t.sq, ps, w⟩
  | itp ys =>
    obtain ⟨a, vs, rfl, t, ps⟩ := p
    exact ⟨a, vs, ys, rfl, .inr t, ps, w⟩
  | _ => exact w.elim
theorem cb_dict (hc : X.calm = true) : CallR X (.type "dict") (LRC X (biW .dict)) := callr_imp (Zh.cr_dictP hc) fun vs H Q q => by
  obtain ⟨ρ, h, xs, F, r, ps, kq, w⟩ := q
  match xs, w with
  | [x], w =>
    obtain ⟨v, rfl, p⟩ := reps1 ps
    obtain ⟨a, vs, ys, rfl, sq, qs, pz, ep, w⟩ := pairW_some r p w
    obtain ⟨as, kvs, rfl, pd, rd⟩ := pairs_rep ep qs
    have rm := d1_merge (acc := []) (ws := []) rd rfl
    refine ⟨a, as, kvs, rfl, sq, pd, fun q hq => ?_⟩
    have n0 := (r.tupl hq (.dK (mergeK [] kvs)))
    have n : Nx ρ H (ρ ++ [q]) (upd H q (.dK (mergeK [] kvs))) := ⟨⟨[q], rfl⟩, fun a w e _ => by rw [upd_ne (ne_of_none e hq)]; exact e, fun a e z => by
      rcases List.mem_append.mp e with e | e
      · exact absurd e z
      · rw [List.mem_singleton.mp e]; exact hq⟩
    obtain ⟨r1, n1⟩ := r.alloc hq (u := .dK (mergeK [] kvs)) (o := .dic (dputs [] pz)) (.inl ⟨_, upd_same, RepD1.stay (r.stay n) _ _ rm⟩)
    exact kq (.ref h.length) _ _ _ _ n1 r1 ⟨q, by rw [← r.len]; simp, rfl⟩ w
theorem firsts_eq : @Z.firsts = @Zh.firsts := rfl
theorem keyAtoms_list {K : PySem.W.Frag} {ρ : List Addr} {H : Hp} : ∀ {xs : List PV} {vs : List V} {ks : List At}, keyAtoms xs = some ks → Reps K ρ H xs vs → vs = ks.map kV
  | [], vs, ks, e, p => by cases p; simp [keyAtoms] at e; subst e; rfl
  | x :: xs, vs, ks, e, ⟨v, r, e1, p, ps⟩ => by
    subst e1
    unfold keyAtoms at e
    split at e
    · rename_i k ks' h1 h2
      cases e
      rw [keyAtoms_list h2 ps, keyAtom_rep h1 p]
      rfl
    · cases e

/-! ### sorted, min and max with default= -/
open PySem.W (EachIs) in
theorem each_of {K : PySem.W.Frag} {ρ : List Addr} {H : Hp} : ∀ {ys : List PV} {vs : List V} {ds : List PyData}, Reps K ρ H ys vs → EachIs (fun (p : PV × PyData) (q : V × PyData) => Rep K ρ H p.1 q.1 ∧ p.2 = q.2) (ys.zip ds) (vs.zip ds)
  | [], _, _, q => by cases q; exact .nil
  | y :: ys, _, [], ⟨v, r, e, q, t⟩ => by subst e; exact .nil
  | y :: ys, _, d :: ds, ⟨v, r, e, q, t⟩ => by subst e; exact .cons ⟨q, rfl⟩ (each_of t)
open PySem.W (EachIs) in
theorem of_each {K : PySem.W.Frag} {ρ : List Addr} {H : Hp} : ∀ {ps : List (PV × PyData)} {qs : List (V × PyData)}, EachIs (fun (p : PV × PyData) (q : V × PyData) => Rep K ρ H p.1 q.1 ∧ p.2 = q.2) ps qs → Reps K ρ H (ps.map (·.1)) (qs.map (·.1))
  | _, _, .nil => rfl
  | _, _, .cons r t => ⟨_, _, rfl, r.1, of_each t⟩
theorem each_mem2 {α β : Type} {R : α → β → Prop} : ∀ {as : List α} {bs : List β}, PySem.W.EachIs R as bs → ∀ p ∈ as.zip bs, R p.1 p.2
  | _, _, .nil, p, h => by cases h
  | _, _, .cons r t, p, h => by
    rcases List.mem_cons.mp h with h | h
    · subst h; exact r
    · exact each_mem2 t p h
theorem Reps.sort {K : PySem.W.Frag} {ρ : List Addr} {H : Hp} {ys : List PV} {vs : List V} {ds : List PyData} (q : Reps K ρ H ys vs) : Reps K ρ H (sortZ ys ds) (Zh.sortV (vs.zip ds)) := by
  have e := each_of (ds := ds) q
  refine of_each (PySem.W.sort_each e fun p hp q hq => ?_)
  have h1 := (each_mem2 e p hp).2
  have h2 := (each_mem2 e q hq).2
  show PySem.W.dataLe false (fun p => p.2) p.1 q.1 = PySem.W.dataLe false (fun p => p.2) p.2 q.2
  rw [PySem.W.dataLe_eq, PySem.W.dataLe_eq]
  simp only [h1, h2]
theorem cb_sorted (hu : X.A.units + 65 < cLine) : CallR X (.builtin "sorted") (LRC X (biW .sorted)) := callr_imp (Zh.cr_sortedDA hu) fun vs H Q q => by
  obtain ⟨ρ, h, xs, F, r, ps, kq, w⟩ := q
  match xs, w with
  | [x], w =>
    obtain ⟨v, rfl, p⟩ := reps1 ps
    obtain ⟨a, vs, ys, rfl, sq, ps, ds, e, al, so, w⟩ := seqW_some r p w
    refine ⟨a, vs, ds, rfl, sq, dat_all _ (dat_dp r 59) ys vs ds ps e, al, so, fun d hd => ?_, fun l hl => kq.newL r ps.sort w hl⟩
    have := seq_depth h 59 ys ds e
    have : ∀ (ds : List PyData), d ∈ ds → d.depth ≤ PyData.depthAll ds := fun ds => by
      induction ds with
      | nil => intro h; cases h
      | cons x ds ih =>
        intro h
        show d.depth ≤ max x.depth (PyData.depthAll ds)
        rcases List.mem_cons.mp h with h | h
        · subst h; omega
        · have := ih h; omega
    have := this ds hd
    omega
theorem mdf_ints : ∀ ns : List Int, ns ≠ [] → ∀ mx, ∃ y ys, ns.map PyData.int = y :: ys ∧ Zh.best mx y ys = .int (if mx = true then maxL ns else minL ns)
  | n :: r, _, mx => by
    refine ⟨.int n, r.map .int, rfl, ?_⟩
    unfold Zh.best
    have e1 : ∀ (l : List Int) (m : Int), l.foldl max m = maxL (m :: l) := fun l => by
      induction l with
      | nil => intro m; rfl
      | cons x l ih =>
        intro m
        rw [List.foldl_cons, ih]
        show maxL (max m x :: l) = max m (maxL (x :: l))
        cases l with
        | nil => rfl
        | cons y l =>
          show max (max m x) (maxL (y :: l)) = max m (max x (maxL (y :: l)))
          omega
    have e2 : ∀ (l : List Int) (m : Int), l.foldl min m = minL (m :: l) := fun l => by
      induction l with
      | nil => intro m; rfl
      | cons x l ih =>
        intro m
        rw [List.foldl_cons, ih]
        show minL (min m x :: l) = min m (minL (x :: l))
        cases l with
        | nil => rfl
        | cons y l =>
          show min (min m x) (minL (y :: l)) = min m (min x (minL (y :: l)))
          omega
    cases mx
    · rw [if_neg (by decide), if_neg (by decide), PySem.W.minD_ints, e2]
    · rw [if_pos rfl, if_pos rfl, PySem.W.maxD_ints, e1]
theorem alike_ints (ns : List Int) : PySem.W.AlikeAll (ns.map PyData.int) := by
  refine ⟨fun x hx y hy => ?_, fun x hx => ?_⟩
  · obtain ⟨i, _, rfl⟩ := List.mem_map.mp hx
    obtain ⟨j, _, rfl⟩ := List.mem_map.mp hy
    rfl
  · obtain ⟨i, _, rfl⟩ := List.mem_map.mp hx
    intro e; cases e
theorem depth_ints : ∀ l : List Int, PyData.depthAll (l.map PyData.int) = 0
  | [] => rfl
  | x :: l => by
    show max 0 (PyData.depthAll (l.map PyData.int)) = 0
    rw [depth_ints l]; rfl
theorem dp_ints {K : PySem.W.Frag} {H : Hp} : ∀ ns : List Int, DpAll K H (ns.map V.int) (ns.map PyData.int)
  | [] => .nil
  | n :: r => .cons (.int n) (dp_ints r)
theorem boot_mm (mx : Bool) : bootBuiltins (Str.ofString (Zh.mmName mx)) = some (.builtin (Zh.mmName mx)) := by cases mx <;> decide +kernel
theorem ze_mdf {Γ : List Spec} {x : Ex} {p p2 kp : Pos} {j : Nat} {mx : Bool} (hc : X.calm = true) (hu : X.A.units + 65 < cLine) (hg : Gl X (Str.ofString (Zh.mmName mx))) (hm : X.mg (Str.ofString (Zh.mmName mx)) = none) (ha : PE X a (LE X W (wE Γ x))) (hs : ∀ r, starEach (a :: r) X.env = (false, eval a X.env) :: starEach r X.env) :
    PE X (.Call (.Name (Str.ofString (Zh.mmName mx)) p) [a] [⟨some "default", .Constant .none j p2, kp⟩] pos) (LE X W (wE Γ (.mdf mx x))) := by
  refine pe_imp (pe_callBK (ks := [Str.ofString "default"]) (Zh.cr_best mx hc hu) hg hm (boot_mm mx) (pa_cons ha pa_nil (hs [])) (pk_cons pe_non pk_nil) (by cases mx <;> decide) (by cases mx <;> decide) (by rw [hs]; rfl) (by rw [hs]; rfl)) fun σ H Q ⟨ρ, σz, h, F, E, s, kq, kx, w⟩ => ?_
  unfold wE at w
  refine ⟨ρ, σz, h, _, E, s, fun y h1 ρ1 H1 v n1 r1 p1 w1 => ?_, kx, w⟩
  obtain ⟨a, vs, ys, rfl, sq, ps, ns, e, w1⟩ := listW_some r1 p1 (show listW h1 y _ from w1)
  obtain rfl := ps.ints e
  refine ⟨a, ns.map V.int, ns.map .int, .non, rfl, rfl, sq, dp_ints ns, alike_ints ns, by rw [depth_ints]; omega, fun e0 => ?_, fun y ys i v e0 hv hd => ?_⟩
  · have : ns = [] := List.map_eq_nil_iff.mp e0
    rw [if_pos this] at w1
    exact (kq.nx n1).non r1 w1
  · have hn : ns ≠ [] := by intro z; subst z; cases e0
    rw [if_neg hn] at w1
    obtain ⟨y', ys', e1, e2⟩ := mdf_ints ns hn mx
    rw [e0] at e1
    cases e1
    rw [e2] at hd
    have hv' : v = .int (if mx = true then maxL ns else minL ns) := by
      rw [List.getElem?_map] at hd
      rw [List.getElem?_map] at hv
      cases hg : ns[i]? with
      | none => rw [hg] at hv; cases hv
      | some n =>
        rw [hg] at hv hd
        cases hv
        have hd : some (PyData.int n) = some (PyData.int (if mx = true then maxL ns else minL ns)) := hd
        injection hd with hd
        injection hd with hd
        rw [hd]
    rw [hv']
    exact (kq.nx n1).int r1 w1
end
end Z

/-! ZsG: calls: built-ins by name, methods, isinstance, defs. -/
namespace Z
open PySem PyProof.Rows L2

section
variable {X : Cx} {W : WX} {e a b c : Expr} {es : List Expr} {pos p : Pos} {Γ : List Spec} {x y : Ex} {xs : List Ex}

theorem le_bi {op : List PV → Hep → KQ → Prop} (σ : L2.St) (H : Hp) (Q : VK) (q : LE X W (fun σz h F E => wEs Γ xs σz h (fun ys h1 => op ys h1 F) E) σ H Q) : tCB (LRC X op) (LA X W (wEs Γ xs)) σ H Q := by
  obtain ⟨ρ, σz, h, F, E, s, kq, kx, w⟩ := q
  refine ⟨ρ, σz, h, _, E, s, fun ys h1 ρ1 H1 vs n1 r1 ps w1 => ?_, kx, w⟩
  exact ⟨ρ1, h1, ys, F, r1, ps, kq.nx n1, w1⟩
theorem le_bi' {bi : BI} (σ : L2.St) (H : Hp) (Q : VK) (q : LE X W (wE Γ (.bi bi xs)) σ H Q) : LE X W (fun σz h F E => wEs Γ xs σz h (fun ys h1 => biW bi ys h1 F) E) σ H Q := by
  obtain ⟨ρ, σz, h, F, E, s, kq, kx, w⟩ := q
  unfold wE at w
  exact ⟨ρ, σz, h, F, E, s, kq, kx, w⟩

/-- the names of the built-ins, and whether they are classes -/
def biName : BI → Option (String × Bool)
  | .len => some ("len", false) | .max2 => some ("max", false) | .min2 => some ("min", false) | .max3 => some ("max", false) | .min3 => some ("min", false) | .sum => some ("sum", false) | .all => some ("all", false) | .any => some ("any", false)
  | .sorted => some ("sorted", false)
  | .dict => some ("dict", true)
  | .list => some ("list", true) | .int => some ("int", true) | .maxl => some ("max", false) | .minl => some ("min", false)
  | _ => none
theorem star_plain {es : List Expr} {env : PySem.Env} (h : ∀ a ∈ es, ∀ r, starEach (a :: r) env = (false, eval a env) :: starEach r env) : (backTo pos (starEach es env)).any (·.1) = false := by
  induction es with
  | nil => rfl
  | cons a r ih =>
    rw [h a List.mem_cons_self r]
    show ((false, _) :: backTo pos (starEach r env)).any (·.1) = false
    rw [List.any_cons, ih fun b hb => h b (List.mem_cons_of_mem _ hb)]
    rfl
/-- a built-in called by its name -/
theorem ze_bi {bi : BI} {nm : String} {ty : Bool} (hn : biName bi = some (nm, ty)) (hc : X.calm = true) (hu : X.A.units + 65 < cLine) (hg : Gl X nm) (hm : X.mg nm = none) (ha : PA X (e :: es) (LA X W (wEs Γ xs)))
    (hs : ∀ a ∈ e :: es, ∀ r, starEach (a :: r) X.env = (false, eval a X.env) :: starEach r X.env) : PE X (.Call (.Name nm p) (e :: es) [] pos) (LE X W (wE Γ (.bi bi xs))) := by
  have h1 := hs e List.mem_cons_self es
  have h2 : (backTo pos (starEach es X.env)).any (·.1) = false := star_plain fun b hb => hs b (List.mem_cons_of_mem _ hb)
  cases bi with
  | len => cases hn; exact pe_imp (pe_callB cb_len hg hm PySem.boot_len ha (by decide) (by decide) h1 h2) fun σ H Q q => le_bi σ H Q (le_bi' σ H Q q)
  | max2 => cases hn; exact pe_imp (pe_callB (cb_max2 hc) hg hm (by decide +kernel) ha (by decide) (by decide) h1 h2) fun σ H Q q => le_bi σ H Q (le_bi' σ H Q q)
  | min2 => cases hn; exact pe_imp (pe_callB (cb_min2 hc) hg hm (by decide +kernel) ha (by decide) (by decide) h1 h2) fun σ H Q q => le_bi σ H Q (le_bi' σ H Q q)
  | max3 => cases hn; exact pe_imp (pe_callB (cb_max3 hc) hg hm (by decide +kernel) ha (by decide) (by decide) h1 h2) fun σ H Q q => le_bi σ H Q (le_bi' σ H Q q)
  | min3 => cases hn; exact pe_imp (pe_callB (cb_min3 hc) hg hm (by decide +kernel) ha (by decide) (by decide) h1 h2) fun σ H Q q => le_bi σ H Q (le_bi' σ H Q q)
  | maxl => cases hn; exact pe_imp (pe_callB (cb_maxl hc hu) hg hm (by decide +kernel) ha (by decide) (by decide) h1 h2) fun σ H Q q => le_bi σ H Q (le_bi' σ H Q q)
  | minl => cases hn; exact pe_imp (pe_callB (cb_minl hc hu) hg hm (by decide +kernel) ha (by decide) (by decide) h1 h2) fun σ H Q q => le_bi σ H Q (le_bi' σ H Q q)
  | sum => cases hn; exact pe_imp (pe_callB (cb_sum hc) hg hm (by decide +kernel) ha (by decide) (by decide) h1 h2) fun σ H Q q => le_bi σ H Q (le_bi' σ H Q q)
  | all => cases hn; exact pe_imp (pe_callB (cb_all hc) hg hm (by decide +kernel) ha (by decide) (by decide) h1 h2) fun σ H Q q => le_bi σ H Q (le_bi' σ H Q q)
  | any => cases hn; exact pe_imp (pe_callB (cb_any hc) hg hm (by decide +kernel) ha (by decide) (by decide) h1 h2) fun σ H Q q => le_bi σ H Q (le_bi' σ H Q q)
  | sorted => cases hn; exact pe_imp (pe_callB (cb_sorted hu) hg hm (by decide +kernel) ha (by decide) (by decide) h1 h2) fun σ H Q q => le_bi σ H Q (le_bi' σ H Q q)
  | list => cases hn; exact pe_imp (pe_callTy cb_list hg hm (by decide +kernel) ha (by decide) (by decide) h1 h2) fun σ H Q q => le_bi σ H Q (le_bi' σ H Q q)
  | dict => cases hn; exact pe_imp (pe_callTy (cb_dict hc) hg hm (by decide +kernel) ha (by decide) (by decide) h1 h2) fun σ H Q q => le_bi σ H Q (le_bi' σ H Q q)
  | int => cases hn; exact pe_imp (pe_callTy cb_int hg hm (by decide +kernel) ha (by decide) (by decide) h1 h2) fun σ H Q q => le_bi σ H Q (le_bi' σ H Q q)
  | _ => cases hn
/-- tuple(x) -/
theorem ze_tuple (hg : Gl X "tuple") (hm : X.mg "tuple" = none) (ha : PE X a (LE X W (wE Γ x))) (hs : starEach [a] X.env = (false, eval a X.env) :: starEach [] X.env) : PE X (.Call (.Name "tuple" p) [a] [] pos) (LE X W (wE Γ (.bi .tuple [x]))) := by
  refine pe_imp (pe_tupleOf hg hm ha hs) fun σ H Q ⟨ρ, σz, h, F, E, s, kq, kx, w⟩ => ?_
  unfold wE wEs at w
  refine ⟨ρ, σz, h, _, E, s, fun y h1 ρ1 H1 v n1 r1 p1 w1 => ?_, kx, w⟩
  unfold wEs at w1
  cases y with
  | ref i =>
    obtain ⟨ys, e, w1⟩ := getL_some (show getL h1 i fun ys => F (.tup ys) h1 from w1)
    obtain ⟨a, e1, rfl⟩ := p1
    obtain ⟨b, vs, e2, k, ps⟩ := r1.lst e
    rw [e1] at e2; cases e2
    exact .inl ⟨a, vs, rfl, SqL.of k, fun q hq => (kq.nx n1).newT r1 ps w1 hq⟩
  | ils ys =>
    obtain ⟨a, vs, rfl, t, ps⟩ := p1
    exact .inl ⟨a, vs, rfl, t.sq, fun q hq => (kq.nx n1).newT r1 ps w1 hq⟩
  | tup ys =>
    obtain ⟨a, vs, rfl, t, ps⟩ := p1
    exact .inr ⟨a, vs, rfl, t.sq, (kq.nx n1).here r1 (x := .tup ys) ⟨a, vs, rfl, t, ps⟩ w1⟩
  | itp ys =>
    obtain ⟨a, vs, rfl, t, ps⟩ := p1
    exact .inr ⟨a, vs, rfl, t.sq, (kq.nx n1).here r1 (x := .itp ys) ⟨a, vs, rfl, t, ps⟩ w1⟩
  | _ => exact False.elim w1
/-- tuple(x) of a list, known whole -/
theorem ze_xtuple (hg : Gl X "tuple") (hm : X.mg "tuple" = none) (ha : PE X a (LE X W (wE Γ x))) (hs : starEach [a] X.env = (false, eval a X.env) :: starEach [] X.env) : PE X (.Call (.Name "tuple" p) [a] [] pos) (LE X W (wE Γ (.bi .xtuple [x]))) := by
  refine pe_imp (Zh.pe_tupleW hg hm ha hs) fun σ H Q ⟨ρ, σz, h, F, E, s, kq, kx, w⟩ => ?_
  unfold wE wEs at w
  refine ⟨ρ, σz, h, _, E, s, fun y h1 ρ1 H1 v n1 r1 p1 w1 => ?_, kx, w⟩
  unfold wEs at w1
  obtain ⟨a, vs, ys, rfl, sq, ps, w1⟩ := listW_some r1 p1 (show listW h1 y _ from w1)
  exact ⟨a, vs, rfl, sq, fun q o d hq => (kq.nx n1).newW r1 ps d w1 hq⟩
/-- len(set(x)) of a list of keys -/
theorem ze_lenkeys {p2 q : Pos} (hc : X.calm = true) (hg : Gl X "len") (hm : X.mg "len" = none) (hg2 : Gl X "set") (hm2 : X.mg "set" = none) (ha : PE X a (LE X W (wE Γ x))) (hs : starEach [a] X.env = (false, eval a X.env) :: starEach [] X.env) :
    PE X (.Call (.Name "len" p) [.Call (.Name "set" p2) [a] [] q] [] pos) (LE X W (wE Γ (.bi .lenkeys [x]))) := by
  have h1 := pe_callTy (p := p2) (pos := q) (Zh.cr_setKeys hc) hg2 hm2 boot_set (pa_cons ha pa_nil hs) (by decide) (by decide) hs (by rfl)
  refine pe_imp (pe_callB Zh.cr_lenSetK hg hm PySem.boot_len (pa_cons h1 pa_nil rfl) (by decide) (by decide) rfl rfl) fun σ H Q ⟨ρ, σz, h, F, E, s, kq, kx, w⟩ => ?_
  unfold wE wEs at w
  refine ⟨ρ, σz, h, _, E, s, fun y h1 ρ1 H1 v n1 r1 p1 w1 => ?_, kx, w⟩
  unfold wEs at w1
  obtain ⟨a, vs, ys, rfl, sq, ps, ks, e, l, w1⟩ := listW_some r1 p1 (show listW h1 y _ from w1)
  obtain rfl := keyAtoms_list e ps
  have lf := Zh.firsts_le ks
  refine ⟨a, ks, rfl, sq, by unfold scanBound; omega, fun p hp => ?_⟩
  obtain ⟨r2, n2⟩ := r1.tupl hp (SetK X.prog X.w p (Zh.inFirst ks) (Zh.firsts ks).length)
  exact ⟨p, _, _, rfl, upd_same, by omega, ((kq.nx n1).nx n2).int r2 w1⟩
/-- len(set(x)) of unlike whole numbers -/
theorem ze_lenset {p2 q : Pos} (hc : X.calm = true) (hg : Gl X "len") (hm : X.mg "len" = none) (hg2 : Gl X "set") (hm2 : X.mg "set" = none) (ha : PE X a (LE X W (wE Γ x))) (hs : starEach [a] X.env = (false, eval a X.env) :: starEach [] X.env) :
    PE X (.Call (.Name "len" p) [.Call (.Name "set" p2) [a] [] q] [] pos) (LE X W (wE Γ (.bi .lenset [x]))) := by
  refine pe_imp (RZ.pe_lenSetI hg hm hg2 hm2 ha hc hs) fun σ H Q ⟨ρ, σz, h, F, E, s, kq, kx, w⟩ => ?_
  unfold wE wEs at w
  refine ⟨ρ, σz, h, _, E, s, fun y h1 ρ1 H1 v n1 r1 p1 w1 => ?_, kx, w⟩
  unfold wEs at w1
  obtain ⟨a, vs, ys, rfl, sq, ps, ns, e, l, nd, w1⟩ := listW_some r1 p1 (show listW h1 y _ from w1)
  obtain rfl := ps.ints e
  exact ⟨a, ns, rfl, sq, nd, l, (kq.nx n1).int r1 w1⟩
theorem cr_setT (hc : X.calm = true) : CallR X (.type "set") (fun vs H Q => ∃ (l : Addr) (ns : List Int), vs = [V.ref l] ∧ SqT X.K H l (ns.map V.int) ∧ ns.length ≤ 4000 ∧
    ∀ p S n, H p = none → (∀ k, S k = true ↔ k ∈ ns) → n ≤ ns.length → Q (.ref p) (upd H p (SetO X.w p S n))) := by
  intro pins s σ H xs us Q I r h
  obtain ⟨l, ns, rfl, hl, hk, q⟩ := h
  rw [Vals.ref1 r]
  obtain ⟨its, rv, pl, hz⟩ := I.tuple hl
  have hn : H s.heap.objs.size = none := I.hok.fresh (Nat.le_refl _)
  refine call_set_tupI ns (I.ok.hd hc) (show s.heap.IsTuple l its.toArray from pl) (by simpa using rv.ints) (by unfold scanBound; omega) fun h' tk c R hcn k => ?_
  exact ⟨.ref s.heap.objs.size, upd H s.heap.objs.size (SetO X.w s.heap.objs.size (fun j => decide (j ∈ ns)) c), I.laid (t' := tk) k (Nat.le_refl _) (setO_new R), rfl, q _ _ _ hn (fun k => by simp) hcn⟩
/-- sorted(set(x)) of whole numbers -/
theorem ze_sortedset {p2 q : Pos} (hc : X.calm = true) (hg : Gl X "sorted") (hm : X.mg "sorted" = none) (hg2 : Gl X "set") (hm2 : X.mg "set" = none) (ha : PE X a (LE X W (wE Γ x))) (hs : starEach [a] X.env = (false, eval a X.env) :: starEach [] X.env) :
    PE X (.Call (.Name "sorted" p) [.Call (.Name "set" p2) [a] [] q] [] pos) (LE X W (wE Γ (.bi .sortedset [x]))) := by
  have h1 := pe_callTy (p := p2) (pos := q) (CallR.or (Zh.cr_setI hc) (cr_setT hc)) hg2 hm2 boot_set (pa_cons ha pa_nil hs) (by decide) (by decide) hs (by rfl)
  refine pe_imp (pe_callB (cr_sortedSet hc) hg hm (by decide +kernel) (pa_cons h1 pa_nil rfl) (by decide) (by decide) rfl rfl) fun σ H Q ⟨ρ, σz, h, F, E, s, kq, kx, w⟩ => ?_
  unfold wE wEs at w
  refine ⟨ρ, σz, h, _, E, s, fun y h1 ρ1 H1 v n1 r1 p1 w1 => ?_, kx, w⟩
  unfold wEs at w1
  obtain ⟨a, vs, ys, rfl, sq, ps, ns, e, l, w1⟩ := seqW_some r1 p1 (show seqW h1 y _ from w1)
  obtain rfl := ps.ints e
  have last : ∀ (p : Addr) (S : Int → Bool) (n : Nat), H1 p = none → (∀ k, S k = true ↔ k ∈ ns) → n ≤ ns.length → rSortedSet X.w [.ref p] (upd H1 p (SetO X.w p S n)) Q := fun p S n hp hS hn => by
    refine ⟨p, S, n, rfl, upd_same, by omega, fun ms q m1 m2 m3 hq => ?_⟩
    obtain ⟨r2, n2⟩ := r1.tupl hp (SetO X.w p S n)
    refine KQok.newL ((kq.nx n1).nx n2) r2 (xs := ms.map PV.int) (reps_map (f := fun k => PV.int k) (g := fun k => V.int k) (fun k => rfl) ms) (w1 ms m1 fun k => (m2 k).trans (hS k)) hq
  rcases sq with sq | sq
  · exact .inl ⟨a, ns, rfl, sq, by omega, fun p S n hp hS _ hn => last p S n hp hS hn⟩
  · exact .inr ⟨a, ns, rfl, sq, by omega, fun p S n hp hS hn => last p S n hp hS hn⟩
/-- x[::-1] -/
theorem ze_rev {k : Nat} {p1 p2 p3 : Pos} (ha : PE X a (LE X W (wE Γ x))) : PE X (.Subscript a (.Slice none none (some (.UnaryOp .USub (.Constant (.int 1) k p1) p2)) p3) pos) (LE X W (wE Γ (.rev x))) := by
  refine pe_imp (Zh.pe_revA ha) fun σ H Q ⟨ρ, σz, h, F, E, s, kq, kx, w⟩ => ?_
  unfold wE at w
  refine ⟨ρ, σz, h, _, E, s, fun y h1 ρ1 H1 v n1 r1 p1 w1 => ?_, kx, w⟩
  have lst : ∀ G : List PV → Prop, listW h1 y G → (∀ ys, G ys → F (.ref h1.length) (h1 ++ [.lst ys.reverse])) → ∃ a xs, v = .ref a ∧ ((SqL X.K H1 a xs ∧ ∀ p, H1 p = none → Q (.ref p) (upd H1 p (.lst xs.reverse))) ∨ (SqT X.K H1 a xs ∧ ∀ p o, o.dict = none → H1 p = none → Q (.ref p) (upd H1 p (.frz o (.tup xs.reverse))))) := fun G w hG => by
    obtain ⟨a, vs, ys, rfl, sq, ps, w1⟩ := listW_some r1 p1 w
    exact ⟨a, vs, rfl, .inl ⟨sq, fun q hq => (kq.nx n1).newL r1 ps.rev (hG _ w1) hq⟩⟩
  unfold revW at w1
  split at w1
  · obtain ⟨a, vs, rfl, t, ps⟩ := p1
    exact ⟨a, vs, rfl, .inr ⟨t.sq, fun p o d hp => (kq.nx n1).newW r1 ps.rev d w1 hp⟩⟩
  · exact lst (fun ys => F (.ref h1.length) (h1 ++ [Ob.lst ys.reverse])) (by unfold listW; exact w1) fun _ k => k
  · exact lst (fun ys => F (.ref h1.length) (h1 ++ [Ob.lst ys.reverse])) (by unfold listW; exact w1) fun _ k => k
  · exact w1.elim
/-- list(range(n)) -/
theorem ze_listrange {p2 q : Pos} (hc : X.calm = true) (hg : Gl X "list") (hm : X.mg "list" = none) (hg2 : Gl X "range") (hm2 : X.mg "range" = none) (ha : PE X a (LE X W (wE Γ x))) (hs : starEach [a] X.env = (false, eval a X.env) :: starEach [] X.env) :
    PE X (.Call (.Name "list" p) [.Call (.Name "range" p2) [a] [] q] [] pos) (LE X W (wE Γ (.bi .listrange [x]))) := by
  refine pe_imp (pe_listRg hc hg hm (prg_1 hg2 hm2 ha hs)) fun σ H Q ⟨ρ, σz, h, F, E, s, kq, kx, w⟩ => ?_
  unfold wE wEs at w
  refine ⟨ρ, σz, h, _, E, s, fun y h1 ρ1 H1 v n1 r1 p1 w1 => ?_, kx, w⟩
  unfold wEs at w1
  cases y with
  | int n =>
    obtain rfl := p1
    obtain ⟨z1, z2, w1⟩ : -(2 ^ 62) ≤ n ∧ n ≤ big ∧ F (.ref h1.length) (h1 ++ [Ob.lst ((List.range n.toNat).map fun (i : Nat) => PV.int i)]) := w1
    have hb : (big : Int) = 16777216 := rfl
    refine ⟨n, rfl, ⟨by omega, by omega, by omega, by omega, by omega⟩, fun q hq => ?_⟩
    have ps : Reps X.K ρ1 H1 ((List.range n.toNat).map fun (i : Nat) => PV.int i) (rgV 0 n) := by
      unfold rgV
      rw [show (n - 0).toNat = n.toNat by rw [Int.sub_zero]]
      refine reps_map (f := fun (i : Nat) => PV.int i) (g := fun (i : Nat) => V.int (0 + (i : Int))) (fun i => ?_) _
      show V.int (0 + (i : Int)) = V.int (i : Int)
      rw [Int.zero_add]
    exact (kq.nx n1).newL r1 ps w1 hq
  | _ => exact False.elim w1
/-- list(range(a, b)) -/
theorem ze_listrange2 {b : Expr} {y : Ex} {p2 q : Pos} (hc : X.calm = true) (hg : Gl X "list") (hm : X.mg "list" = none) (hg2 : Gl X "range") (hm2 : X.mg "range" = none) (ha : PE X a (LE X W (wE Γ x))) (hb : PE X b (LE X W (wE Γ y)))
    (hs : starEach [a, b] X.env = (false, eval a X.env) :: starEach [b] X.env) (hs2 : starEach [b] X.env = (false, eval b X.env) :: starEach [] X.env) (hp : (backTo q (starEach [b] X.env)).any (·.1) = false) :
    PE X (.Call (.Name "list" p) [.Call (.Name "range" p2) [a, b] [] q] [] pos) (LE X W (wE Γ (.bi .listrange [x, y]))) := by
  refine pe_imp (pe_listRg hc hg hm (prg_2 hg2 hm2 ha hb hs hs2 hp)) fun σ H Q ⟨ρ, σz, h, F, E, s, kq, kx, w⟩ => ?_
  unfold wE wEs at w
  refine ⟨ρ, σz, h, _, E, s, fun y h1 ρ1 H1 v n1 r1 p1 w1 => ?_, kx, w⟩
  unfold wEs at w1
  refine ⟨ρ1, σz, h1, _, E, s.nx n1 r1, fun z h2 ρ2 H2 v2 n2 r2 p2 w2 => ?_, kx.nx n1, w1⟩
  unfold wEs at w2
  cases y with
  | int i =>
    cases z with
    | int j =>
      obtain rfl : v = .int i := p1
      obtain rfl : v2 = .int j := p2
      obtain ⟨z1, z2, z3, z4, z5, w2⟩ : -(2 ^ 62) ≤ i ∧ i < 2 ^ 62 ∧ -(2 ^ 62) ≤ j ∧ j < 2 ^ 62 ∧ j - i ≤ big ∧ F (.ref h2.length) (h2 ++ [Ob.lst ((List.range (j - i).toNat).map fun (k : Nat) => PV.int (i + k))]) := w2
      have hb : (big : Int) = 16777216 := rfl
      refine ⟨i, j, rfl, rfl, ⟨by omega, by omega, by omega, by omega, by omega⟩, fun q hq => ?_⟩
      have ps : Reps X.K ρ2 H2 ((List.range (j - i).toNat).map fun (k : Nat) => PV.int (i + k)) (rgV i j) := by
        unfold rgV
        exact reps_map (f := fun (k : Nat) => PV.int (i + k)) (g := fun (k : Nat) => V.int (i + (k : Int))) (fun k => rfl) _
      exact ((kq.nx n1).nx n2).newL r2 ps w2 hq
    | _ => exact False.elim w2
  | _ => exact False.elim w2

/-! ### isinstance -/
def itName : IT → String
  | .int => "int" | .bool => "bool" | .str => "str" | .list => "list" | .tuple => "tuple" | .dict => "dict"
theorem isT_rule {ρ : List Addr} {h : Hep} {H : Hp} {y : PV} {v : V} {t : IT} {K : Bool → Prop} (r : HR X.K X.mg ρ h H) (p : Rep X.K ρ H y v) (w : isT t h y K) : ∃ (ty : Value) (b : Bool), TyX X.K H v ty ∧ PySem.W.kitOne X.K ty (.type (itName t)) = some b ∧ K b := by
  cases y with
  | non => obtain rfl := p; exact ⟨_, false, .base .non, by cases t <;> exact kit_ty (by decide +kernel), w⟩
  | bl b => obtain rfl := p; exact ⟨_, _, .base (.bl b), by cases t <;> exact kit_ty (by decide +kernel), w⟩
  | int b => obtain rfl := p; exact ⟨_, _, .base (.int b), by cases t <;> exact kit_ty (by decide +kernel), w⟩
  | str b => obtain rfl := p; exact ⟨_, _, .base (.str b), by cases t <;> exact kit_ty (by decide +kernel), w⟩
  | tup b =>
    obtain ⟨a, vs, rfl, tl, ps⟩ := p
    exact ⟨_, _, .base (.tup tl), by cases t <;> exact kit_ty (by decide +kernel), w⟩
  | itp b =>
    obtain ⟨a, vs, rfl, tl, ps⟩ := p
    rcases tl with ⟨o, _, tl⟩ | ⟨o, its, n, _, hk, hcl, _⟩
    · exact ⟨_, _, .fTuple tl, by cases t <;> exact kit_ty (by decide +kernel), w⟩
    · exact ⟨_, _, .kTuple hk hcl, by cases t <;> exact kit_ty (by decide +kernel), w⟩
  | exc c ns xs => exact w.elim
  | ils b =>
    obtain ⟨a, vs, rfl, tl, ps⟩ := p
    rcases tl with ⟨o, tl⟩ | (tl | ⟨o, tl⟩) | ⟨o, its, n, hk, hcl, _⟩
    · exact ⟨_, _, .base (.frz tl), by cases t <;> exact kit_ty (by decide +kernel), w⟩
    · cases tl
    · cases tl
    · exact ⟨_, _, .kList hk hcl, by cases t <;> exact kit_ty (by decide +kernel), w⟩
  | ref i =>
    have w' : (match h[i]? with | some (.lst _) => K (t == .list) | some (.dic _) => K (t == .dict) | _ => False) := w
    obtain ⟨a, e1, rfl⟩ := p
    split at w'
    · rename_i ys e
      obtain ⟨b, vs, e2, k, ps⟩ := r.lst e
      rw [e1] at e2; cases e2
      exact ⟨_, _, .base (.lst k), by cases t <;> exact kit_ty (by decide +kernel), w'⟩
    · rename_i kvs e
      obtain ⟨b, e2, q⟩ := r.get e
      rw [e1] at e2; cases e2
      rcases q with ⟨ws, k, _⟩ | ⟨ws, k, _⟩
      · exact ⟨_, _, .base (.dK k), by cases t <;> exact kit_ty (by decide +kernel), w'⟩
      · exact ⟨_, _, .base (.dT k), by cases t <;> exact kit_ty (by decide +kernel), w'⟩
    · exact w'.elim
theorem boot_it (t : IT) : bootBuiltins (itName t) = some (.type (itName t)) := by cases t <;> decide +kernel
theorem ze_isi {t : IT} {p2 : Pos} (hg : Gl X "isinstance") (hm : X.mg "isinstance" = none) (hg2 : Gl X (itName t)) (hm2 : X.mg (itName t) = none) (ha : PE X a (LE X W (wE Γ x))) (hs : ∀ r, starEach (a :: r) X.env = (false, eval a X.env) :: starEach r X.env) :
    PE X (.Call (.Name "isinstance" p) [a, .Name (itName t) p2] [] pos) (LE X W (wE Γ (.isi x t))) := by
  have hb : PE X (.Name (itName t) p2) (tC (.ty (itName t))) := pe_bltn hg2 hm2 (boot_it t) rfl (by cases t <;> decide) (by cases t <;> decide)
  have hpa : PA X [a, .Name (itName t) p2] (tCons (LE X W (wE Γ x)) (tCons (tC (.ty (itName t))) tNil)) := pa_cons ha (pa_cons hb pa_nil rfl) (hs _)
  refine pe_imp (pe_callB call_isi hg hm (by decide +kernel) hpa (by decide) (by decide) (hs _) rfl) fun σ H Q ⟨ρ, σz, h, F, E, s, kq, kx, w⟩ => ?_
  unfold wE at w
  refine ⟨ρ, σz, h, _, E, s, fun y h1 ρ1 H1 v n1 r1 p1 w1 => ?_, kx, w⟩
  obtain ⟨ty, b, tx, k, w1⟩ := isT_rule r1 p1 w1
  exact ⟨v, _, ty, _, b, rfl, .ty _, tx, k, (kq.nx n1).bl r1 w1⟩

/-! ### methods of lists -/
theorem tyV_list {H : Hp} {a : Addr} {vs : List V} (k : H a = some (.lst vs)) : tyV X.K "list" (.ref a) H := .inl ⟨rfl, _, SqL.of k⟩
theorem listed {h : Hep} {r : Nat} {K : List PV → Prop} {ρ : List Addr} {H : Hp} {v : V} (hr : HR X.K X.mg ρ h H) (p : Rep X.K ρ H (.ref r) v) (w : getL h r K) : ∃ a vs ys, v = .ref a ∧ ρ[r]? = some a ∧ H a = some (.lst vs) ∧ h[r]? = some (.lst ys) ∧ Reps X.K ρ H ys vs ∧ K ys := by
  obtain ⟨ys, e, w⟩ := getL_some w
  obtain ⟨a, e1, rfl⟩ := p
  obtain ⟨b, vs, e2, k, ps⟩ := hr.lst e
  rw [e1] at e2; cases e2
  exact ⟨a, vs, ys, rfl, e1, k, e, ps, w⟩
/-- the list at a written -/
theorem KQok.setL {ρ : List Addr} {h : Hep} {H : Hp} {F : KQ} {Q : VK} (kq : KQok X ρ H F Q) (r : HR X.K X.mg ρ h H) {i : Nat} {a : Addr} (e : ρ[i]? = some a) {ys : List PV} {vs : List V} (ps : Reps X.K ρ H ys vs) {z : PV} {v : V} (pz : Rep X.K ρ H z v) (w : F z (h.set i (.lst ys))) : Q v (upd H a (.lst vs)) := by
  have n : Nx ρ H ρ (upd H a (.lst vs)) := ⟨⟨[], by simp⟩, fun b o q z => by rw [upd_ne (fun y => z (by rw [y]; exact List.mem_of_getElem? e) : b ≠ a)]; exact q, fun b q z => absurd q z⟩
  obtain ⟨r1, n1⟩ := r.write e (u := .lst vs) (o := .lst ys) ⟨vs, upd_same, ps.nx r n⟩
  exact kq _ _ _ _ _ n1 r1 (pz.nx r n) w
theorem mi_ty {h : Hep} {ρ : List Addr} {H : Hp} {y : PV} {v : V} (r : HR X.K X.mg ρ h H) (p : Rep X.K ρ H y v) (w : isL h y) : tyV X.K "list" v H := by
  cases y with
  | ref i =>
    obtain ⟨a, vs, ys, rfl, e1, k, _⟩ := listed r p (show getL h i fun _ => True from w)
    exact tyV_list k
  | _ => exact w.elim
theorem ze_mi1 {m : MI} {id : String} {nm : Str} {apos : Pos} {rr : V → List V → Hp → VK → Prop} (slot : Slot "list" nm id) (hty : typeOf (.builtin id) = pure (.type "method_descriptor")) (hm : MtR X id rr)
    (ho : ∀ (ρ : List Addr) (h : Hep) (H : Hp) (z : PV) (zs : List PV) (v : V) (vs : List V) (F : KQ) (Q : VK), HR X.K X.mg ρ h H → Rep X.K ρ H z v → Reps X.K ρ H zs vs → KQok X ρ H F Q → miW m z zs h F → rr v vs H Q)
    (ha : PE X a (LE X W (wE Γ x))) (hb : PE X b (LE X W (wE Γ y))) (hbase : attributeBase a nm X.env (eval a X.env) = eval a X.env) (hline : (apos.endLine == pos.line) = true) (hs : ∀ r, starEach (b :: r) X.env = (false, eval b X.env) :: starEach r X.env) :
    PE X (.Call (.Attribute a nm apos) [b] [] pos) (LE X W (wE Γ (.mi m x [y]))) := by
  refine pe_imp (pe_bm PySem.F.plainAttrs_list slot hty hm ha (pa_cons hb pa_nil (hs _)) hbase (by rw [hs]; rfl) hline (hs _) rfl) fun σ H Q ⟨ρ, σz, h, F, E, s, kq, kx, w⟩ => ?_
  unfold wE at w
  refine ⟨ρ, σz, h, _, E, s, fun z h1 ρ1 H1 v n1 r1 p1 w1 => ⟨mi_ty r1 p1 w1.1, ?_⟩, kx, w⟩
  obtain ⟨l, w1⟩ := w1
  unfold wEs at w1
  refine ⟨ρ1, σz, h1, _, E, s.nx n1 r1, fun z2 h2 ρ2 H2 v2 n2 r2 p2 w2 => ?_, kx.nx n1, w1⟩
  unfold wEs at w2
  exact ho ρ2 h2 H2 z [z2] v [v2] F Q r2 (p1.nx r1 n2) (Reps.one p2) (kq.nx (n1.trans n2)) w2
theorem ze_mi0 {m : MI} {id : String} {nm : Str} {apos : Pos} {rr : V → List V → Hp → VK → Prop} (slot : Slot "list" nm id) (hty : typeOf (.builtin id) = pure (.type "method_descriptor")) (hm : MtR X id rr)
    (ho : ∀ (ρ : List Addr) (h : Hep) (H : Hp) (z : PV) (v : V) (F : KQ) (Q : VK), HR X.K X.mg ρ h H → Rep X.K ρ H z v → KQok X ρ H F Q → miW m z [] h F → rr v [] H Q)
    (ha : PE X a (LE X W (wE Γ x))) (hbase : attributeBase a nm X.env (eval a X.env) = eval a X.env) (hline : (apos.endLine == pos.line) = true) :
    PE X (.Call (.Attribute a nm apos) [] [] pos) (LE X W (wE Γ (.mi m x []))) := by
  refine pe_imp (pe_bm0 PySem.F.plainAttrs_list slot hty hm ha hbase hline) fun σ H Q ⟨ρ, σz, h, F, E, s, kq, kx, w⟩ => ?_
  unfold wE at w
  refine ⟨ρ, σz, h, _, E, s, fun z h1 ρ1 H1 v n1 r1 p1 w1 => ⟨mi_ty r1 p1 w1.1, ?_⟩, kx, w⟩
  obtain ⟨l, w1⟩ := w1
  unfold wEs at w1
  exact ho ρ1 h1 H1 z v F Q r1 p1 (kq.nx n1) w1
theorem mo_append {ρ : List Addr} {h : Hep} {H : Hp} {z : PV} {zs : List PV} {v : V} {vs : List V} {F : KQ} {Q : VK} (r : HR X.K X.mg ρ h H) (p : Rep X.K ρ H z v) (ps : Reps X.K ρ H zs vs) (kq : KQok X ρ H F Q) (w : miW .append z zs h F) : rAppend v vs H Q := by
  match z, zs, w with
  | .ref i, [y], w =>
    obtain ⟨u, rfl, py⟩ := reps1 ps
    obtain ⟨a, ws, ys, rfl, e1, k, e, qs, l, w⟩ := listed r p (show getL h i fun ys => ys.length < big ∧ F .non (h.set i (.lst (ys ++ [y]))) from w)
    exact ⟨a, ws, u, rfl, rfl, k, by rw [← big_eq, ← qs.len]; exact l, kq.setL r e1 (qs.app (Reps.one py)) (z := .non) rfl w⟩
theorem mo_popAt {ρ : List Addr} {h : Hep} {H : Hp} {z : PV} {zs : List PV} {v : V} {vs : List V} {F : KQ} {Q : VK} (r : HR X.K X.mg ρ h H) (p : Rep X.K ρ H z v) (ps : Reps X.K ρ H zs vs) (kq : KQok X ρ H F Q) (w : miW .popAt z zs h F) : rPopAt v vs H Q := by
  match z, zs, w with
  | .ref i, [.int n], w =>
    obtain ⟨u, rfl, py⟩ := reps1 ps
    obtain rfl := py
    obtain ⟨a, ws, ys, rfl, e1, k, e, qs, j, y, z1, z2, ej, g, w⟩ := listed r p (show getL h i fun ys => ∃ j v, -(2 ^ 63) ≤ n ∧ n < 2 ^ 63 ∧ ixN ys.length n = some j ∧ ys[j]? = some v ∧ F v (h.set i (.lst (ys.eraseIdx j))) from w)
    obtain ⟨u, g2, pu⟩ := qs.get g
    exact ⟨a, ws, n, j, u, rfl, rfl, k, z1, z2, by rw [← qs.len]; exact (ixN_seq ej).1, g2, kq.setL r e1 (qs.eraseIdx j) pu w⟩
theorem mo_pop {ρ : List Addr} {h : Hep} {H : Hp} {z : PV} {v : V} {F : KQ} {Q : VK} (r : HR X.K X.mg ρ h H) (p : Rep X.K ρ H z v) (kq : KQok X ρ H F Q) (w : miW .pop z [] h F) : rPop v [] H Q := by
  match z, w with
  | .ref i, w =>
    obtain ⟨a, ws, ys, rfl, e1, k, e, qs, y, g, w⟩ := listed r p (show getL h i fun ys => ∃ v, ys[ys.length - 1]? = some v ∧ F v (h.set i (.lst ys.dropLast)) from w)
    obtain ⟨u, g2, pu⟩ := qs.get g
    exact ⟨a, ws, u, rfl, rfl, k, by rw [← qs.len]; exact g2, kq.setL r e1 qs.dropLast pu w⟩

theorem mo_index {ρ : List Addr} {h : Hep} {H : Hp} {z : PV} {zs : List PV} {v : V} {vs : List V} {F : KQ} {Q : VK} (r : HR X.K X.mg ρ h H) (p : Rep X.K ρ H z v) (ps : Reps X.K ρ H zs vs) (kq : KQok X ρ H F Q) (w : miW .index z zs h F) : rIndexD X.K v vs H Q := by
  match z, zs, w with
  | .ref i, [y], w =>
    obtain ⟨u, rfl, py⟩ := reps1 ps
    obtain ⟨a, ws, ys, rfl, e1, k, e, qs, d, ds, j, z, hd, sd, hds, cl, hz, hzj, hno, w⟩ := listed r p (show getL h i fun ys => ∃ d ds j z, dat h 59 y = some d ∧ SeqAt.shaped d = true ∧ datAll (dat h 59) ys = some ds ∧ PyData.canLayAll0 ds = true ∧ ds[j]? = some z ∧ PyData.eqv z d = true ∧
      (∀ (m : Nat) (z' : PyData), m < j → ds[m]? = some z' → PyData.eqv z' d = false) ∧ F (.int (j : Nat)) h from w)
    have hl : dat h 60 (.ref i) = some (.list ds) := by
      rw [dat, e]
      show (datAll (dat h 59) ys).map PyData.list = _
      rw [hds]; rfl
    exact ⟨a, u, d, ds, j, z, rfl, rfl, dat_dp r 60 _ _ _ p hl, dat_dp r 59 _ _ _ py hd, dat_shaped (by decide) hl cl, sd, hz, hzj, hno, kq.int r w⟩
theorem mo_remove {ρ : List Addr} {h : Hep} {H : Hp} {z : PV} {zs : List PV} {v : V} {vs : List V} {F : KQ} {Q : VK} (r : HR X.K X.mg ρ h H) (p : Rep X.K ρ H z v) (ps : Reps X.K ρ H zs vs) (kq : KQok X ρ H F Q) (w : miW .remove z zs h F) : rRemI v vs H Q := by
  match z, zs, w with
  | .ref i, [.int n], w =>
    obtain ⟨u, rfl, py⟩ := reps1 ps
    obtain rfl := py
    obtain ⟨a, ws, ys, rfl, e1, k, e, qs, ns, j, en, hj, hno, w⟩ := listed r p (show getL h i fun ys => ∃ ns j, intsOf ys = some ns ∧ ns[j]? = some n ∧ (∀ m : Nat, m < j → ns[m]? ≠ some n) ∧ F .non (h.set i (.lst (ys.eraseIdx j))) from w)
    obtain rfl := qs.ints en
    refine ⟨a, ns, n, j, rfl, rfl, k, hj, hno, ?_⟩
    rw [← erase_mapI]
    exact kq.setL r e1 (qs.eraseIdx j) (z := .non) rfl w
theorem mo_extend {ρ : List Addr} {h : Hep} {H : Hp} {z : PV} {zs : List PV} {v : V} {vs : List V} {F : KQ} {Q : VK} (r : HR X.K X.mg ρ h H) (p : Rep X.K ρ H z v) (ps : Reps X.K ρ H zs vs) (kq : KQok X ρ H F Q) (w : miW .extend z zs h F) : rExtend v vs H Q := by
  match z, zs, w with
  | .ref i, [.ref j], w =>
    obtain ⟨u, rfl, py⟩ := reps1 ps
    obtain ⟨a, ws, ys, rfl, e1, k, e, qs, w⟩ := listed r p (show getL h i fun ys => getL h j fun zs => ys.length + zs.length ≤ big ∧ F .non (h.set i (.lst (ys ++ zs))) from w)
    obtain ⟨b, us, zs, rfl, e2, k2, e3, qz, l, w⟩ := listed r py w
    exact ⟨a, b, ws, us, rfl, rfl, k, k2, by rw [← big_eq, ← qs.len, ← qz.len]; exact l, kq.setL r e1 (qs.app qz) (z := .non) rfl w⟩
theorem mo_clear {ρ : List Addr} {h : Hep} {H : Hp} {z : PV} {v : V} {F : KQ} {Q : VK} (r : HR X.K X.mg ρ h H) (p : Rep X.K ρ H z v) (kq : KQok X ρ H F Q) (w : miW .clear z [] h F) : rClear v [] H Q := by
  match z, w with
  | .ref i, w =>
    obtain ⟨a, ws, ys, rfl, e1, k, e, qs, w⟩ := listed r p (show getL h i fun ys => F .non (h.set i (.lst [])) from w)
    exact ⟨a, ws, rfl, rfl, k, kq.setL r e1 (ys := []) (vs := []) rfl (z := .non) rfl w⟩

/-! ### d.get -/
theorem getD_some {h : Hep} {r : Nat} {F : List (Ky × PV) → Prop} (w : getD h r F) : ∃ kvs, h[r]? = some (.dic kvs) ∧ F kvs := by
  unfold getD at w
  split at w
  · exact ⟨_, by assumption, w⟩
  · exact w.elim
/-- what a dict tells of a key, there or not -/
theorem dic_get {pins : List (Addr × Obj)} {σ : L2.St} {s : Shared} {ρ : List Addr} {h : Hep} {H : Hp} {i : Nat} {kvs : List (Ky × PV)} {k : Ky} {a : Addr} {y : PV} {u : V} (I : Inv X pins σ H s) (r : HR X.K X.mg ρ h H) (e : h[i]? = some (.dic kvs)) (e1 : ρ[i]? = some a) (hk : keyOf y = some k) (p : Rep X.K ρ H y u) (kk : kindOk k kvs = true) :
    ∃ H1 o, Inv X pins σ H1 s ∧ Nx ρ H ρ H1 ∧ HR X.K X.mg ρ h H1 ∧ DGet H1 a u o ∧ ((dget k kvs = none ∧ o = none) ∨ ∃ z w, dget k kvs = some z ∧ o = some w ∧ Rep X.K ρ H1 z w) := by
  cases g : dget k kvs with
  | some z =>
    obtain ⟨w, dg, rz⟩ := dic_some r e e1 hk p g
    exact ⟨H, some w, I, .refl, r, dg, .inr ⟨z, w, rfl, rfl, rz⟩⟩
  | none =>
    obtain ⟨H1, o, I1, n, r1, dg, eo⟩ := dic_any I r e e1 hk p kk
    rw [g] at eo
    exact ⟨H1, o, I1, n, r1, dg, .inl ⟨rfl, by cases o <;> simp_all⟩⟩
theorem isD_rep {h : Hep} {ρ : List Addr} {H : Hp} {y : PV} {v : V} (r : HR X.K X.mg ρ h H) (p : Rep X.K ρ H y v) (w : isD h y) : ∃ (i : Nat) (a : Addr), y = .ref i ∧ v = .ref a ∧ ρ[i]? = some a ∧ IsD H a := by
  cases y with
  | ref i =>
    obtain ⟨kvs, e, _⟩ := getD_some (show getD h i fun _ => True from w)
    obtain ⟨a, e1, rfl⟩ := p
    obtain ⟨b, e2, q⟩ := r.get e
    rw [e1] at e2; cases e2
    rcases q with ⟨ws, k, _⟩ | ⟨ws, k, _⟩
    · exact ⟨i, a, rfl, rfl, e1, .inl ⟨ws, .inl k⟩⟩
    · exact ⟨i, a, rfl, rfl, e1, .inr ⟨ws, .inl k⟩⟩
  | _ => exact w.elim
/-- a dict's method, its arguments' trees plain -/
theorem ze_dg1 {k : Ex} {apos : Pos} (hu : X.A.units + 65 < cLine) (ha : PE X a (LE X W (wE Γ x))) (hb : PE X b (LE X W (wE Γ k))) (hbase : attributeBase a "get" X.env (eval a X.env) = eval a X.env) (hline : (apos.endLine == pos.line) = true) (hs : ∀ r, starEach (b :: r) X.env = (false, eval b X.env) :: starEach r X.env) :
    PE X (.Call (.Attribute a "get" apos) [b] [] pos) (LE X W (wE Γ (.dg1 x k))) := by
  have tr : backTo pos (starEach [b] X.env) = [(false, eval b X.env)] := by rw [hs]; rfl
  refine ⟨fun pins s σ H Q I ⟨ρ, σz, h, F, E, sr, kq, kx, w⟩ => ?_⟩
  unfold wE at w
  refine wpAny_Call_method hbase (by rw [tr]; rfl) hline PySem.F.plainAttrs_dict PySem.F.slot_dict_get PySem.F.type_dict_get (thn (ha.run pins s σ H (fun v H1 => ∃ (ρ1 : List Addr) (h1 : Hep) (y : PV), Nx ρ H ρ1 H1 ∧ HR X.K X.mg ρ1 h1 H1 ∧ Rep X.K ρ1 H1 y v ∧ isD h1 y ∧ wE Γ k σz h1 (fun z h2 => dgetW h2 y z fun o => F (o.getD .non) h2) E) I
    ⟨ρ, σz, h, _, E, sr, fun y h1 ρ1 H1 v n1 r1 p1 w1 => ⟨ρ1, h1, y, n1, r1, p1, w1.1, w1.2⟩, kx, w⟩) fun u s1 ⟨v, H1, I1, rv, ρ1, h1, y, n1, r1, p1, d, w1⟩ => ?_)
  obtain ⟨i, c, ey, ev, ei, isd⟩ := isD_rep r1 p1 d
  subst ey ev
  obtain rfl : u = Value.ref c := rv
  obtain ⟨t1, t2, _⟩ := isD_at I1 isd
  refine ⟨t1, t2, ?_⟩
  rw [tr]
  refine Calls.callWith_builtin rfl (Calls.evalArgs_plain (Calls.spliced_cons (thn (hb.run pins s1 σ H1 (fun z H2 => ∃ (ρ2 : List Addr) (h2 : Hep) (q : PV), Nx ρ1 H1 ρ2 H2 ∧ HR X.K X.mg ρ2 h2 H2 ∧ Rep X.K ρ2 H2 q z ∧ dgetW h2 (.ref i) q fun o => F (o.getD .non) h2) I1
    ⟨ρ1, σz, h1, _, E, sr.nx n1 r1, fun z h2 ρ2 H2 v2 n2 r2 p2 w2 => ⟨ρ2, h2, z, n2, r2, p2, w2⟩, kx.nx n1, w1⟩) fun uz s2 ⟨z, H2, I2, rz, ρ2, h2, q, n2, r2, p2, w2⟩ => Calls.spliced_nil ?_)))
  obtain ⟨kvs, ek, kk, hk, ok, w2⟩ := getD_some (show getD h2 i fun kvs => ∃ k, keyOf q = some k ∧ kindOk k kvs = true ∧ F ((dget k kvs).getD .non) h2 from w2)
  obtain ⟨H3, o, I3, n3, r3, dg, ov⟩ := dic_get I2 r2 ek (n2.at ei) hk p2 ok
  refine d_get1 (by omega) I3 dg rz fun w' s3 I4 rw' => ⟨_, H3, I4, rw', ?_⟩
  have kq3 := ((kq.nx n1).nx n2).nx n3
  rcases ov with ⟨g, rfl⟩ | ⟨z', w'', g, rfl, rp⟩
  · rw [g] at w2
    exact kq3.non r3 w2
  · rw [g] at w2
    exact kq3.here r3 rp w2
theorem ze_dg2 {k dv : Ex} {apos : Pos} (hu : X.A.units + 65 < cLine) (ha : PE X a (LE X W (wE Γ x))) (hb : PE X b (LE X W (wE Γ k))) (hd : PE X c (LE X W (wE Γ dv))) (hbase : attributeBase a "get" X.env (eval a X.env) = eval a X.env) (hline : (apos.endLine == pos.line) = true) (hs : ∀ r, starEach (b :: r) X.env = (false, eval b X.env) :: starEach r X.env) (hs2 : ∀ r, starEach (c :: r) X.env = (false, eval c X.env) :: starEach r X.env) :
    PE X (.Call (.Attribute a "get" apos) [b, c] [] pos) (LE X W (wE Γ (.dg2 x k dv))) := by
  have tr : backTo pos (starEach [b, c] X.env) = [(false, eval b X.env), (false, eval c X.env)] := by rw [hs, hs2]; rfl
  refine ⟨fun pins s σ H Q I ⟨ρ, σz, h, F, E, sr, kq, kx, w⟩ => ?_⟩
  unfold wE at w
  refine wpAny_Call_method hbase (by rw [tr]; rfl) hline PySem.F.plainAttrs_dict PySem.F.slot_dict_get PySem.F.type_dict_get (thn (ha.run pins s σ H (fun v H1 => ∃ (ρ1 : List Addr) (h1 : Hep) (y : PV), Nx ρ H ρ1 H1 ∧ HR X.K X.mg ρ1 h1 H1 ∧ Rep X.K ρ1 H1 y v ∧ isD h1 y ∧ wE Γ k σz h1 (fun z h2 => wE Γ dv σz h2 (fun t h3 => dgetW h3 y z fun o => F (o.getD t) h3) E) E) I
    ⟨ρ, σz, h, _, E, sr, fun y h1 ρ1 H1 v n1 r1 p1 w1 => ⟨ρ1, h1, y, n1, r1, p1, w1.1, w1.2⟩, kx, w⟩) fun u s1 ⟨v, H1, I1, rv, ρ1, h1, y, n1, r1, p1, d, w1⟩ => ?_)
  obtain ⟨i, c', ey, ev, ei, isd⟩ := isD_rep r1 p1 d
  subst ey ev
  obtain rfl : u = Value.ref c' := rv
  obtain ⟨t1, t2, _⟩ := isD_at I1 isd
  refine ⟨t1, t2, ?_⟩
  rw [tr]
  have sr1 := sr.nx n1 r1
  refine Calls.callWith_builtin rfl (Calls.evalArgs_plain (Calls.spliced_cons (thn (hb.run pins s1 σ H1 (fun z H2 => ∃ (ρ2 : List Addr) (h2 : Hep) (q : PV), Nx ρ1 H1 ρ2 H2 ∧ HR X.K X.mg ρ2 h2 H2 ∧ Rep X.K ρ2 H2 q z ∧ wE Γ dv σz h2 (fun t h3 => dgetW h3 (.ref i) q fun o => F (o.getD t) h3) E) I1
    ⟨ρ1, σz, h1, _, E, sr1, fun z h2 ρ2 H2 v2 n2 r2 p2 w2 => ⟨ρ2, h2, z, n2, r2, p2, w2⟩, kx.nx n1, w1⟩) fun uz s2 ⟨z, H2, I2, rz, ρ2, h2, q, n2, r2, p2, w2⟩ =>
    Calls.spliced_cons (thn (hd.run pins s2 σ H2 (fun t H3 => ∃ (ρ3 : List Addr) (h3 : Hep) (tv : PV), Nx ρ2 H2 ρ3 H3 ∧ HR X.K X.mg ρ3 h3 H3 ∧ Rep X.K ρ3 H3 tv t ∧ dgetW h3 (.ref i) q fun o => F (o.getD tv) h3) I2
    ⟨ρ2, σz, h2, _, E, sr1.nx n2 r2, fun t h3 ρ3 H3 v3 n3 r3 p3 w3 => ⟨ρ3, h3, t, n3, r3, p3, w3⟩, (kx.nx n1).nx n2, w2⟩) fun ut s3 ⟨t, H3, I3, rt, ρ3, h3, tv, n3, r3, p3, w3⟩ => Calls.spliced_nil ?_))))
  obtain ⟨kvs, ek, kk, hk, ok, w3⟩ := getD_some (show getD h3 i fun kvs => ∃ k, keyOf q = some k ∧ kindOk k kvs = true ∧ F ((dget k kvs).getD tv) h3 from w3)
  obtain ⟨H4, o, I4, n4, r4, dg, ov⟩ := dic_get I3 r3 ek (n3.at (n2.at ei)) hk (p2.nx r2 n3) ok
  refine d_get2 (by omega) I4 dg rz rt fun w' s4 I5 rw' => ⟨_, H4, I5, rw', ?_⟩
  have kq4 := (((kq.nx n1).nx n2).nx n3).nx n4
  rcases ov with ⟨g, rfl⟩ | ⟨z', w'', g, rfl, rp⟩
  · rw [g] at w3
    exact kq4.here r4 (p3.nx r3 n4) w3
  · rw [g] at w3
    exact kq4.here r4 rp w3

/-! ### methods of texts; dicts written out -/
theorem strs_rep {K : PySem.W.Frag} {ρ : List Addr} {H : Hp} : ∀ {xs : List PV} {vs : List V} {ss : List Str}, strsOf xs = some ss → Reps K ρ H xs vs → vs = ss.map V.str
  | [], vs, ss, e, p => by cases p; simp [strsOf] at e; subst e; rfl
  | x :: xs, vs, ss, e, ⟨v, r, e1, p, ps⟩ => by
    subst e1
    cases x with
    | str s =>
      cases h : strsOf xs with
      | none => simp [strsOf, h] at e
      | some ms =>
        simp [strsOf, h] at e
        subst e
        obtain rfl := p
        rw [strs_rep h ps]
        rfl
    | _ => simp [strsOf] at e
theorem ze_smG {m : SM} {id : String} {nm : Str} {k : Ex} {apos : Pos} {rr : V → List V → Hp → VK → Prop} (slot : Slot "str" nm id) (hty : typeOf (.builtin id) = pure (.type "method_descriptor")) (hm : MtR X id rr)
    (ho : ∀ (ρ : List Addr) (h : Hep) (H : Hp) (z y : PV) (v u : V) (F : KQ) (Q : VK), HR X.K X.mg ρ h H → Rep X.K ρ H z v → Rep X.K ρ H y u → KQok X ρ H F Q → smW m z y h F → rr v [u] H Q)
    (ha : PE X a (LE X W (wE Γ x))) (hb : PE X b (LE X W (wE Γ k))) (hbase : attributeBase a nm X.env (eval a X.env) = eval a X.env) (hline : (apos.endLine == pos.line) = true) (hs : ∀ r, starEach (b :: r) X.env = (false, eval b X.env) :: starEach r X.env) :
    PE X (.Call (.Attribute a nm apos) [b] [] pos) (LE X W (wE Γ (.sm m x k))) := by
  refine pe_imp (pe_bm PySem.F.plainAttrs_str slot hty hm ha (pa_cons hb pa_nil (hs _)) hbase (by rw [hs]; rfl) hline (hs _) rfl) fun σ H Q ⟨ρ, σz, h, F, E, s, kq, kx, w⟩ => ?_
  unfold wE at w
  refine ⟨ρ, σz, h, _, E, s, fun z h1 ρ1 H1 v n1 r1 p1 w1 => ⟨?_, ?_⟩, kx, w⟩
  · obtain ⟨t, _⟩ := w1
    cases z with
    | str s =>
      obtain rfl := p1
      exact (rfl : "str" = "str")
    | _ => exact t.elim
  obtain ⟨l, w1⟩ := w1
  refine ⟨ρ1, σz, h1, _, E, s.nx n1 r1, fun z2 h2 ρ2 H2 v2 n2 r2 p2 w2 => ?_, kx.nx n1, w1⟩
  exact ho ρ2 h2 H2 z z2 v v2 F Q r2 (p1.nx r1 n2) p2 (kq.nx (n1.trans n2)) w2
theorem so_join {ρ : List Addr} {h : Hep} {H : Hp} {z y : PV} {v u : V} {F : KQ} {Q : VK} (r : HR X.K X.mg ρ h H) (p : Rep X.K ρ H z v) (p2 : Rep X.K ρ H y u) (kq : KQok X ρ H F Q) (w : smW .join z y h F) :
    ∃ a p, ∃ ys : List Str, v = .str a ∧ [u] = [.ref p] ∧ (SqL X.K H p (ys.map V.str) ∨ SqT X.K H p (ys.map V.str)) ∧ (ys.map (·.length)).sum + ys.length * a.length ≤ 16777216 ∧ Q (.str (Txt.join a ys)) H := by
  cases z with
  | str a =>
    obtain rfl := p
    obtain ⟨q, vs, ys, rfl, sq, ps, ss, e, l, w⟩ := seqW_some r p2 (show seqW h y fun ys => ∃ ss, strsOf ys = some ss ∧ (ss.map (·.length)).sum + ss.length * a.length ≤ big ∧ F (.str (joinZ a ss)) h from w)
    obtain rfl := strs_rep e ps
    exact ⟨a, q, ss, rfl, rfl, sq, l, kq.str r w⟩
  | _ => exact w.elim
theorem so_index {ρ : List Addr} {h : Hep} {H : Hp} {z y : PV} {v u : V} {F : KQ} {Q : VK} (r : HR X.K X.mg ρ h H) (p : Rep X.K ρ H z v) (p2 : Rep X.K ρ H y u) (kq : KQok X ρ H F Q) (w : smW .index z y h F) :
    ∃ a b i rest, v = .str a ∧ [u] = [.str b] ∧ Builtin.Str.occurrences a b 0 a.length 1 = i :: rest ∧ Q (.int (i : Nat)) H := by
  cases z with
  | str a =>
    obtain rfl := p
    cases y with
    | str b =>
      obtain rfl := p2
      obtain ⟨i, rest, e, w⟩ := (show ∃ (i : Nat) (rest : List Nat), Builtin.Str.occurrences a b 0 a.length 1 = i :: rest ∧ F (.int i) h from w)
      exact ⟨a, b, i, rest, rfl, rfl, e, kq.int r w⟩
    | _ => exact w.elim
  | _ => exact w.elim
/-- the readings of a written dict's pairs -/
def trsOf (X : Cx) (W : WX) (Γ : List Spec) : List Str → List Ex → List (TE × TE)
  | k :: ks, x :: xs => (tC (.str k), LE X W (wE Γ x)) :: trsOf X W Γ ks xs
  | _, _ => []
theorem tp_of : ∀ {ks : List Str} {xs : List Ex} {ρ : List Addr} {σz : Env} {h : Hep} {F : List PV → Hep → Prop} {E : KX} {σ : L2.St} {H : Hp} {Q : List (V × V) → Hp → Prop}, ks.length = xs.length → SR X ρ σz h σ H →
    (∀ (ys : List PV) (h' : Hep) (ρ' : List Addr) (H' : Hp) (vs : List V), Nx ρ H ρ' H' → HR X.K X.mg ρ' h' H' → Reps X.K ρ' H' ys vs → ys.length = ks.length → F ys h' → Q ((ks.zip vs).map fun p => (V.str p.1, p.2)) H') → KXok X W σ ρ H E → wEs Γ xs σz h F E → tPairs (trsOf X W Γ ks xs) σ H Q
  | [], [], ρ, σz, h, F, E, σ, H, Q, _, sr, k, kx, w => by
    unfold wEs at w
    exact k [] h ρ H [] Nx.refl sr.hr rfl rfl w
  | [], _ :: _, _, _, _, _, _, _, _, _, e, _, _, _, _ => nomatch e
  | _ :: _, [], _, _, _, _, _, _, _, _, e, _, _, _, _ => nomatch e
  | y :: ks, x :: xs, ρ, σz, h, F, E, σ, H, Q, e, sr, k, kx, w => by
    unfold wEs at w
    show LE X W (wE Γ x) σ H _
    refine ⟨ρ, σz, h, _, E, sr, fun z h1 ρ1 H1 v n1 r1 p1 w1 => ?_, kx, w⟩
    show tPairs (trsOf X W Γ ks xs) σ H1 _
    refine tp_of (F := fun ys h2 => F (z :: ys) h2) (by simpa using e) (sr.nx n1 r1) (fun ys h2 ρ2 H2 vs n2 r2 ps le w2 => ?_) (kx.nx n1) w1
    exact k (z :: ys) h2 ρ2 H2 (v :: vs) (n1.trans n2) r2 ⟨v, vs, rfl, p1.nx r1 n2, ps⟩ (by rw [List.length_cons, List.length_cons, le]) w2
/-- a dict that stood empty while its pairs were made -/
theorem HR.allocD {K : PySem.W.Frag} {mg : Str → Option Value} {ρ : List Addr} {h : Hep} {H : Hp} (r : HR K mg ρ h H) {p : Addr} (hp : p ∉ ρ) (e : H p = some (.dK [])) {u : HO} {o : Ob} (new : Stay K ρ H (ρ ++ [p]) (upd H p u) → RepO K mg (ρ ++ [p]) (upd H p u) o p) : HR K mg (ρ ++ [p]) (h ++ [o]) (upd H p u) := by
  have ne : ∀ {a : Addr} {x : HO}, H a = some x → x ≠ .dK [] → a ≠ p := fun {a x} q z y => by
    rw [y, e] at q
    cases q
    exact z rfl
  have s : Stay K ρ H (ρ ++ [p]) (upd H p u) := by
    refine ⟨fun a vs t => ?_, fun a vs t => ?_, fun a vs t => ?_, fun a cls d t => ?_, fun a fs t => ?_, fun i a q => ?_⟩
    · exact (upd_ne (ne t fun z => by cases z)).trans t
    · rcases t with ⟨ob, t⟩ | t
      · exact .inl ⟨ob, (upd_ne (ne t fun z => by cases z)).trans t⟩
      · exact .inr t
    · rcases t with ⟨ob, d, t⟩ | t
      · exact .inl ⟨ob, d, (upd_ne (ne t fun z => by cases z)).trans t⟩
      · exact .inr t
    · exact (upd_ne (ne t fun z => by have z' : HO.ext _ = HO.dK [] := z; cases z')).trans t
    · exact (upd_ne (ne t fun z => by cases z)).trans t
    · rw [List.getElem?_append_left (List.getElem?_eq_some_iff.mp q).1]
      exact q
  refine ⟨by rw [List.length_append, List.length_append, r.len] <;> rfl, ?_, fun i w a h1 h2 => ?_⟩
  · rw [List.nodup_append]
    refine ⟨r.nd, by simp, fun a ha b hb => ?_⟩
    rw [List.mem_singleton.mp hb]
    exact fun z => hp (z ▸ ha)
  · by_cases hi : i < h.length
    · rw [List.getElem?_append_left hi] at h1
      rw [List.getElem?_append_left (by rw [r.len]; exact hi)] at h2
      refine RepO.stay s ?_ (r.ob i w a h1 h2)
      exact upd_ne fun z => hp (z ▸ List.mem_of_getElem? h2)
    · have hl : i < (h ++ [o]).length := (List.getElem?_eq_some_iff.mp h1).1
      rw [List.length_append] at hl
      have hi' : i = h.length := by simp at hl; omega
      subst hi'
      rw [List.getElem?_append_right (Nat.le_refl _), Nat.sub_self] at h1
      rw [← r.len, List.getElem?_append_right (Nat.le_refl _), Nat.sub_self] at h2
      cases h1
      cases h2
      exact new s
theorem zip_rd {K : PySem.W.Frag} {ρ : List Addr} {H : Hp} : ∀ {ks : List Str} {ys : List PV} {vs : List V}, Reps K ρ H ys vs → RepD1 K ρ H (((ks.map Sum.inr).zip ys).map fun p => (Ky.one p.1, p.2)) ((ks.map Sum.inr).zip vs)
  | [], _, _, _ => rfl
  | k :: ks, [], _, p => by cases p; exact rfl
  | k :: ks, y :: ys, _, ⟨v, r, e, p, ps⟩ => by
    subst e
    exact ⟨.inr k, v, _, rfl, rfl, p, zip_rd ps⟩
theorem ze_dcd {ks : List Str} {xs : List Ex} {keys : List (Option Expr)} (hk : ks.length = xs.length) (h1 : 1 ≤ ks.length) (h15 : ks.length ≤ 15) (hkk : keys.length = ks.length) (hall : keys.all (·.isSome) = true) (hl : keys.length = es.length)
    (hp : PPs X pos keys es (trsOf X W Γ ks xs)) : PE X (.Dict keys es pos) (LE X W (wE Γ (.dcd ks xs))) := by
  have h0 : keys ≠ [] := fun z => by rw [z] at hkk; rw [← hkk] at h1; exact absurd h1 (by decide)
  refine pe_imp (pe_disp hp hall hl h0 (by omega)) fun σ H Q ⟨ρ, σz, h, F, E, s, kq, kx, w⟩ => fun p hp => ?_
  unfold wE at w
  obtain ⟨r1, n1⟩ := s.hr.tupl hp (.dK [])
  refine tp_of hk (s.nx n1 r1) (fun ys h2 ρ2 H2 vs n2 r2 ps le w2 => ?_) (kx.nx n1) w
  have pr : p ∉ ρ := s.hr.fresh hp
  have e2 : H2 p = some (.dK []) := n2.fr p _ upd_same pr
  have pr2 : p ∉ ρ2 := fun z => by
    have q := n2.nw p z pr
    rw [upd_same] at q
    cases q
  have lv := ps.len
  refine ⟨e2, (ks.map Sum.inr).zip vs, ?_, ?_, ?_⟩
  · rw [List.zip_map_left, List.map_map]
    rfl
  · rw [List.length_zip, List.length_map]
    omega
  · have r3 := r2.allocD (u := .dK (mergeK [] ((ks.map Sum.inr).zip vs))) (o := .dic (dputs [] ((ks.map Sum.inr).zip ys))) pr2 e2 fun st => .inl ⟨_, upd_same, d1_merge (acc := []) (ws := []) (RepD1.stay st _ _ (zip_rd ps)) rfl⟩
    have n3 : Nx ρ H (ρ2 ++ [p]) (upd H2 p (.dK (mergeK [] ((ks.map Sum.inr).zip vs)))) := by
      obtain ⟨t, et⟩ := n2.pre
      refine ⟨⟨t ++ [p], by rw [et, List.append_assoc]⟩, fun a o q z => ?_, fun a q z => ?_⟩
      · have ap : a ≠ p := ne_of_none q hp
        rw [upd_ne ap]
        exact n2.fr a o ((upd_ne ap).trans q) z
      · rcases List.mem_append.mp q with q | q
        · have ap : a ≠ p := fun y => pr2 (y ▸ q)
          have := n2.nw a q z
          rw [upd_ne ap] at this
          exact this
        · rw [List.mem_singleton.mp q]; exact hp
    exact kq (.ref h2.length) _ _ _ _ n3 r3 ⟨p, by rw [← r2.len]; simp, rfl⟩ w2

/-! ### calls of defs -/
/-- a promise, as the hand layer has it -/
def lift (K : PySem.W.Frag) (mg : Str → Option Value) (S : Spec) : Sp := fun vs H Q E' => ∃ (ρ : List Addr) (h : Hep) (xs : List PV) (F : KQ) (E : KX), HR K mg ρ h H ∧ Reps K ρ H xs vs ∧
  (∀ (r : PV) (h' : Hep) (ρ' : List Addr) (H' : Hp) (v : V), Nx ρ H ρ' H' → HR K mg ρ' h' H' → Rep K ρ' H' r v → F r h' → Q v H') ∧
  (∀ (x : XV) (h' : Hep) (ρ' : List Addr) (H' : Hp) (cls : Value) (d : Option Addr), Nx ρ H ρ' H' → HR K mg ρ' h' H' → XR K mg ρ' H' x cls d → E x h' → E' cls d H') ∧ S xs h F E
/-- a def that may be called -/
def FnReady (X : Cx) (x : Str) (S : Spec) : Prop := ∃ (f : Addr) (fd : FuncData) (ps : List Str) (j : Nat) (sp : Sp) (ds : List Value) (dvs : List V), X.mg x = some (.ref f) ∧ PySem.W.keepIn X.K (.ref f) = true ∧
  FnOk X.prog X.w X.K X.mg X.base (L2.CX X.prog X.w) j f fd ps sp ∧ Room j X.A ∧ Binds X.K fd ps ds ∧ Vals dvs ds ∧ ∀ vs H Q E, lift X.K X.mg S vs H Q E → sp (vs ++ dvs) H Q E
theorem ze_call {nm : Str} {S : Spec} {i : Nat} (fr : FnReady X nm S) (hG : Γ[i]? = some S) (tk : Takes X W) (hg : Gl X nm) (hdb : (nm == ("__debug__" : Str)) = false) (ha : PA X es (LA X W (wEs Γ xs)))
    (hx : es = [] → xs = []) (hs : ∀ a ∈ es, ∀ r, starEach (a :: r) X.env = (false, eval a X.env) :: starEach r X.env) : PE X (.Call (.Name nm p) es [] pos) (LE X W (wE Γ (.call i xs))) := by
  obtain ⟨f, fd, ps, j, sp, ds, dvs, hm, hk, F, hr, hb, hd, imp⟩ := fr
  have main : ∀ (σ : L2.St) (H : Hp) (Q : VK), LE X W (wE Γ (.call i xs)) σ H Q → LA X W (wEs Γ xs) σ H (fun vs H1 => sp (vs ++ dvs) H1 Q (fun cls d H => W cls d σ H)) := by
    intro σ H Q ⟨ρ, σz, h, F, E, s, kq, kx, w⟩
    unfold wE at w
    refine ⟨ρ, σz, h, _, E, s, fun ys h1 ρ1 H1 vs n1 r1 ps w1 => imp _ _ _ _ ?_, kx, w⟩
    rw [hG] at w1
    exact ⟨ρ1, h1, ys, F, E, r1, ps, kq.nx n1, kx.nx n1, w1⟩
  refine ⟨fun pins s σ H Q I q => ?_⟩
  have q := main σ H Q q
  cases es with
  | nil =>
    refine wpAny_Call_Name_kw (ld_glob I hg hm ?_ hdb)
    -- the arguments: none
    obtain rfl := hx rfl
    have q : sp ([] ++ dvs) H Q (fun cls d H => W cls d σ H) := by
      obtain ⟨ρ, σz, h, F, E, s, kq, kx, w⟩ := q
      unfold wEs at w
      exact kq [] h ρ H [] Nx.refl s.hr rfl w
    exact PySem.W.callWith_K0 I.kIn hk (run_fnSD (us := []) (E := fun σ cls d H => W cls d σ H) F hr hb hd (passAt tk σ) I .nil q)
  | cons e es =>
    refine wpAny_Call_Name_kw (ld_glob I hg hm ?_ hdb)
    refine PySem.W.callWith_K (h₀ := X.base) I.ok.mod.kin hk (thn (ha.run pos pins s σ H _ I q) fun us s1 ⟨vs, H1, I1, r, q⟩ => ⟨I1.kIn, ?_⟩) (hs e List.mem_cons_self es) (star_plain fun b hb => hs b (List.mem_cons_of_mem _ hb))
    exact run_fnSD (E := fun σ cls d H => W cls d σ H) F hr hb hd (passAt tk σ) I1 r q

/-! ### instances -/
theorem getO_some {h : Hep} {r : Nat} {F : Str → List (Str × PV) → Prop} (w : getO h r F) : ∃ c fs, h[r]? = some (.ins c fs) ∧ F c fs := by
  unfold getO at w
  split at w
  · rename_i c fs e
    exact ⟨c, fs, e, w⟩
  · exact False.elim w
theorem repF_get {K : PySem.W.Frag} {ρ : List Addr} {H : Hp} {f : Str} {v : PV} : ∀ {fs : List (Str × PV)} {gs : List (Str × V)}, RepF K ρ H fs gs → fs.lookup f = some v → ∃ u, gs.lookup f = some u ∧ Rep K ρ H v u
  | [], _, _, e => by cases e
  | (g, x) :: fs, _, ⟨u, gs, rfl, p, q⟩, e => by
    rw [List.lookup_cons] at e ⊢
    cases c : (f == g) with
    | true => rw [c] at e; cases e; exact ⟨u, rfl, p⟩
    | false => rw [c] at e; exact repF_get q e
theorem repF_none {K : PySem.W.Frag} {ρ : List Addr} {H : Hp} {f : Str} : ∀ {fs : List (Str × PV)} {gs : List (Str × V)}, RepF K ρ H fs gs → fs.lookup f = none → gs.lookup f = none
  | [], _, q, _ => by cases q; rfl
  | (g, x) :: fs, _, ⟨u, gs, rfl, p, q⟩, e => by
    rw [List.lookup_cons] at e ⊢
    cases c : (f == g) with
    | true => rw [c] at e; cases e
    | false => rw [c] at e; exact repF_none q e
theorem repF_len {K : PySem.W.Frag} {ρ : List Addr} {H : Hp} : ∀ {fs : List (Str × PV)} {gs : List (Str × V)}, RepF K ρ H fs gs → gs.length = fs.length
  | [], _, q => by cases q; rfl
  | (g, x) :: fs, _, ⟨u, gs, rfl, p, q⟩ => by rw [List.length_cons, List.length_cons, repF_len q]
theorem repF_put {K : PySem.W.Frag} {ρ : List Addr} {H : Hp} {f : Str} {y : PV} {z : V} (pz : Rep K ρ H y z) : ∀ {fs : List (Str × PV)} {gs : List (Str × V)}, RepF K ρ H fs gs → RepF K ρ H (putZ f y fs) (putF f z gs)
  | [], _, q => by cases q; exact ⟨z, [], rfl, pz, rfl⟩
  | (g, x) :: fs, _, ⟨u, gs, rfl, p, q⟩ => by
    unfold putZ putF
    by_cases c : g = f
    · rw [if_pos c, if_pos c]; exact ⟨z, gs, rfl, pz, q⟩
    · rw [if_neg c, if_neg c]; exact ⟨u, _, rfl, p, repF_put pz q⟩
def ClReady (X : Cx) (c : Str) (fs : List Str) : Prop := ∃ C : Addr, X.mg c = some (.ref C) ∧ Cls X.K C ∧ ∀ f ∈ fs, NoAttr X.K C f
def MeReady (X : Cx) (c m : Str) (S : Spec) : Prop := ∃ (C f : Addr) (fd : FuncData) (ps : List Str) (j : Nat) (sp : Sp) (ds : List Value) (dvs : List V), X.mg c = some (.ref C) ∧ Cls X.K C ∧ Meth X.K C m f ∧
  FnOk X.prog X.w X.K X.mg X.base (L2.CX X.prog X.w) j f fd ps sp ∧ Room j X.A ∧ Binds X.K fd ps ds ∧ Vals dvs ds ∧ ∀ vs H Q E, lift X.K X.mg S vs H Q E → sp (vs ++ dvs) H Q E
def NwReady (X : Cx) (c : Str) (S : Spec) : Prop := ∃ (C f : Addr) (fd : FuncData) (ps : List Str) (j : Nat) (sp : Sp) (ds : List Value) (dvs : List V), X.mg c = some (.ref C) ∧ Mk X.K C f ∧
  FnOk X.prog X.w X.K X.mg X.base (L2.CX X.prog X.w) j f fd ps sp ∧ Room (j + 1) X.A ∧ Binds X.K fd ps ds ∧ Vals dvs ds ∧ ∀ vs H Q E, lift X.K X.mg S vs H Q E → sp (vs ++ dvs) H Q E
/-- an own error class without own __init__ -/
def ErReady (X : Cx) (c : Str) : Prop := ∃ C : Addr, X.mg c = some (.ref C) ∧ PySem.W.nsIn X.K mainGlobals c = some (some (.ref C)) ∧ PySem.W.excIn X.K C PySem.HandSPX.veTail "ValueError.__new__" = true ∧ PySem.W.keepIn X.K (.ref C) = true ∧
  PySem.W.subIn X.K (.ref C) (.type "BaseException") = some true ∧ PySem.W.typeIn X.K (.ref C) = some (.type "type")
/-- what a name of an error class says -/
def XnIs (X : Cx) (c : Str) (cv : Value) : Prop := X.mg c = some cv ∨ (X.mg c = none ∧ bootBuiltins c = some cv ∧ c ≠ "__name__")
/-- error classes that may come, beside those that are asked for -/
def XsReady (X : Cx) (rs ts : List Str) : Prop := ∀ a ∈ rs, ∃ C : Addr, PySem.W.nsIn X.K mainGlobals a = some (some (.ref C)) ∧ L2.ExcC X.K C ∧
  ∀ c ∈ ts, ∃ cv : Value, XnIs X c cv ∧ PySem.W.exmOne X.K (.ref C) cv = some (subX a c) ∧ PySem.W.kitOne X.K (.ref C) cv = some (subX a c)
/-- an error class whose own __init__ keeps one thing -/
def EiReady (X : Cx) (c f : Str) : Prop := ∃ (C fI : Addr) (fd : FuncData) (ps : List Str) (k : Nat), X.mg c = some (.ref C) ∧ PySem.W.nsIn X.K mainGlobals c = some (some (.ref C)) ∧ OexC X.K C ∧ PySem.W.findIn X.K (.ref C) f = some none ∧
  PySem.W.findIn X.K (.ref C) "__init__" = some (some (.ref fI)) ∧ PySem.W.typeIn X.K (.ref fI) = some (.type "function") ∧ FnOk X.prog X.w X.K X.mg X.base (L2.CX X.prog X.w) k fI fd ps (Zh.spInit X.K f) ∧ Room (k + 1) X.A ∧ Binds X.K fd ps []
def XfReady (X : Cx) (c f : Str) : Prop := ∃ C : Addr, PySem.W.nsIn X.K mainGlobals c = some (some (.ref C)) ∧ L2.XfC X.K C ∧ PySem.W.findIn X.K (.ref C) f = some none
def Rdy (X : Cx) : Cn → Spec → Prop
  | .fn x, S => FnReady X x S
  | .me c m, S => MeReady X c m S
  | .mk c, S => NwReady X c S
  | .cl c fs, _ => ClReady X c fs
  | .er c, _ => ErReady X c
  | .xs rs ts, _ => XsReady X rs ts
  | .ei c f, _ => EiReady X c f
  | .xf c f, _ => XfReady X c f
  | .gd, _ => X.A.guards = some []
theorem zip_get {K : PySem.W.Frag} {ρ : List Addr} {H : Hp} {f : Str} {z : PV} : ∀ {ns : List Str} {vs : List PV} {gs : List V}, Reps K ρ H vs gs → (ns.zip vs).lookup f = some z → ∃ g, (ns.zip gs).lookup f = some g ∧ Rep K ρ H z g
  | [], _, _, _, e => by cases e
  | _ :: _, [], _, q, e => by cases e
  | n :: ns, x :: vs, _, ⟨v, r, e1, p, q⟩, e => by
    subst e1
    rw [List.zip_cons_cons, List.lookup_cons] at e ⊢
    cases c : (f == n) with
    | true => rw [c] at e; cases e; exact ⟨v, rfl, p⟩
    | false => rw [c] at e; exact zip_get q e
/-- repr(e) where nothing is being shown -/
theorem boot_repr : bootBuiltins "repr" = some (.builtin "repr") := by decide +kernel
theorem ze_rep (gd : X.A.guards = some []) (hu : X.A.units + 65 < cLine) (hg : Gl X "repr") (hm : X.mg "repr" = none) (ha : PE X a (LE X W (wE Γ x))) (hs : starEach [a] X.env = (false, eval a X.env) :: starEach [] X.env) : PE X (.Call (.Name "repr" p) [a] [] pos) (LE X W (wE Γ (.rep x))) := by
  refine pe_imp (pe_callB (Zh.cr_repr hu gd) hg hm boot_repr (pa_cons ha pa_nil hs) (by decide) (by decide) hs (by rfl)) fun σ H Q ⟨ρ, σz, h, F, E, s, kq, kx, w⟩ => ?_
  unfold wE at w
  refine ⟨ρ, σz, h, _, E, s, fun y h1 ρ1 H1 v n1 r1 p1 w1 => ?_, kx, w⟩
  obtain ⟨d, e, sp, sh, sz, w1⟩ := w1
  exact ⟨v, d, rfl, dat_dp r1 59 y v d p1 e, sh, by have := SeqAt.depth_of_shaped sp; omega, sz, (kq.nx n1).here r1 (x := .str d.shown) rfl w1⟩
/-- e.f of a kept exception -/
theorem ze_fldx {c f : Str} (xr : XfReady X c f) (ha : PE X a (LE X W (wE Γ x))) (hb : attributeBase a f X.env (eval a X.env) = eval a X.env) : PE X (.Attribute a f pos) (LE X W (wE Γ (.fldx x c f))) := by
  obtain ⟨C, hn, T, hno⟩ := xr
  refine ⟨fun pins s σ H Q I q => ?_⟩
  obtain ⟨ρ, σz, h, F, E, sr, kq, kx, w⟩ := q
  unfold wE at w
  refine L2.attr_of hb (thn (ha.run pins s σ H (fun v H1 => ∃ (ρ1 : List Addr) (h1 : Hep) (y : PV), Nx ρ H ρ1 H1 ∧ HR X.K X.mg ρ1 h1 H1 ∧ Rep X.K ρ1 H1 y v ∧ fldxW y c f fun z => F z h1) I
    ⟨ρ, σz, h, _, E, sr, fun y h1 ρ1 H1 v n1 r1 p1 w1 => ⟨ρ1, h1, y, n1, r1, p1, w1⟩, kx, w⟩) fun u s1 ⟨v, H1, I1, rv, ρ1, h1, y, n1, r1, p1, w1⟩ => ?_)
  cases y with
  | exc c' ns vs =>
    obtain ⟨ec, z, el, w2⟩ := (show c' = c ∧ ∃ v, (ns.zip vs).lookup f = some v ∧ F v h1 from w1)
    subst ec
    obtain ⟨a', C', d, gs, ev, hn', ek, ps, hl, alt⟩ := p1
    subst ev
    obtain rfl : u = Value.ref a' := rv
    rw [hn] at hn'
    cases hn'
    obtain ⟨g, eg, pg⟩ := zip_get ps el
    rcases alt with ⟨en, _⟩ | ⟨dd, ed, exd⟩
    · rw [en] at el
      cases el
    · obtain ⟨⟨oe, ovs, ho, hz, hd⟩, _, _⟩ := I1.hok a' _ ek
      have hx : ObjOk X.prog X.w H1 s1.heap dd (.xd (ns.zip gs)) := I1.hok dd _ exd
      obtain ⟨mA, hns, hr⟩ := hx
      obtain ⟨od, hod, hlk⟩ := lookIn_ns hns
      obtain ⟨u', hu, ru⟩ := RelO.some_of (v := g) (o := mA f) (by rw [← eg]; exact hr f)
      have J : PySem.W.InstAt s1.heap a' oe C (some od) := ⟨ho, hz.1, by unfold PySem.W.notCls; rw [hd] <;> rfl, by rw [hz.2, ed]; exact hod⟩
      exact HandSPX.exc_get I1.kIn J T.ga T.gg T.exC (PySem.W.findObj_own T.hdC hno rfl (by rw [hlk, hu])) (handed_of ru) ⟨g, H1, I1.tok _, ru, (kq.nx n1).here r1 pg w2⟩
  | _ => exact False.elim w1
theorem ins_of {ρ : List Addr} {h : Hep} {H : Hp} {c : Str} {C : Addr} (r : HR X.K X.mg ρ h H) (hm : X.mg c = some (.ref C)) {i : Nat} {fs : List (Str × PV)} {a : Addr} (e : h[i]? = some (.ins c fs)) (e1 : ρ[i]? = some a) : ∃ dx gs, H a = some (.ins C dx gs) ∧ RepF X.K ρ H fs gs := by
  obtain ⟨C', dx, gs, m', k, q⟩ := r.ob i _ a e e1
  rw [hm] at m'
  cases m'
  exact ⟨dx, gs, k, q⟩
theorem ze_fld {c f : Str} {fl : List Str} (cr : ClReady X c fl) (hf : f ∈ fl) (ha : PE X e (LE X W (wE Γ x))) (hb : attributeBase e f X.env (eval e X.env) = eval e X.env) : PE X (.Attribute e f pos) (LE X W (wE Γ (.fld x c f))) := by
  refine pe_imp (pe_fld ha hb) fun σ H Q ⟨ρ, σz, h, F, E, s, kq, kx, w⟩ => ?_
  unfold wE at w
  refine ⟨ρ, σz, h, _, E, s, fun y h1 ρ1 H1 v n1 r1 p1 w1 => ?_, kx, w⟩
  obtain ⟨C, hm, cl, na⟩ := cr
  cases y with
  | ref i =>
    obtain ⟨_, fs, e, rfl, u, el, w1⟩ := getO_some (show getO h1 i fun c' fs => c' = c ∧ ∃ v, fs.lookup f = some v ∧ F v h1 from w1)
    obtain ⟨a, e1, rfl⟩ := p1
    obtain ⟨dx, gs, k, q⟩ := ins_of r1 hm e e1
    obtain ⟨z, ez, pz⟩ := repF_get q el
    exact ⟨a, C, dx, gs, z, rfl, k, cl, na f hf, ez, (kq.nx n1).here r1 pz w1⟩
  | _ => exact False.elim w1
theorem ze_mth {c m : Str} {S : Spec} {i : Nat} {o : Expr} {apos : Pos} {pl : Sem Bool} (fr : MeReady X c m S) (hG : Γ[i]? = some S) (tk : Takes X W) (ho : PE X o (LE X W (wE Γ y))) (ha : PA X es (LA X W (wEs Γ xs)))
    (hx : es = [] → xs = []) (hs : ∀ a ∈ es, ∀ r, starEach (a :: r) X.env = (false, eval a X.env) :: starEach r X.env)
    (ht : eval (.Call (.Attribute o m apos) es [] pos) X.env = (do
      let ov ← eval o X.env
      standAt apos.atName
      let (f, first) ← holding [ov] (getMethod ov m pl)
      callWith pos f first (backTo pos (starEach es X.env)) (backToKw pos (keywordEach [] X.env)))) : PE X (.Call (.Attribute o m apos) es [] pos) (LE X W (wE Γ (.mth i c m y xs))) := by
  obtain ⟨C, f, fd, ps, j, sp, ds, dvs, hm, cl, me, F, hr, hb, hd, imp⟩ := fr
  refine ⟨fun pins s σ H Q I q => ?_⟩
  obtain ⟨ρ, σz, h, Fz, E, sr, kq, kx, w⟩ := q
  unfold wE at w
  refine PySem.W.methodCall_KW (pl := pl) (thn (ho.run pins s σ H (fun v H1 => ∃ a dx gs, v = .ref a ∧ H1 a = some (.ins C dx gs) ∧ gs.lookup m = none ∧ LA X W (wEs Γ xs) σ H1 fun vs H2 => sp ((.ref a :: vs) ++ dvs) H2 Q (fun cls d H => W cls d σ H)) I
    ⟨ρ, σz, h, _, E, sr, fun x h1 ρ1 H1 v n1 r1 p1 w1 => ?_, kx, w⟩) fun u s1 ⟨v, H1, I1, rv, a, dx, gs, ev, ea, el, q1⟩ => ?_) ht
  · obtain ⟨w1, w2⟩ := w1
    cases x with
    | ref r =>
      obtain ⟨_, fs, e, rfl, ln⟩ := getO_some (show getO h1 r fun c' fs => c' = c ∧ fs.lookup m = none from w1)
      obtain ⟨a, e1, rfl⟩ := p1
      obtain ⟨dx, gs, k, q⟩ := ins_of r1 hm e e1
      refine ⟨a, dx, gs, rfl, k, repF_none q ln, ρ1, σz, h1, _, E, sr.nx n1 r1, fun ys h2 ρ2 H2 vs n2 r2 ps2 w3 => imp _ _ _ _ ?_, (kx.nx n1), w2⟩
      rw [hG] at w3
      exact ⟨ρ2, h2, .ref r :: ys, Fz, E, r2, ⟨_, _, rfl, ⟨a, n2.at e1, rfl⟩, ps2⟩, (kq.nx n1).nx n2, (kx.nx n1).nx n2, w3⟩
    | _ => exact False.elim w1
  · subst ev
    obtain rfl : u = Value.ref a := rv
    refine getmeth_ok I1 ea cl me el ?_
    cases es with
    | nil =>
      obtain rfl := hx rfl
      have q1 : sp (([V.ref a] ++ []) ++ dvs) H1 Q (fun cls d H => W cls d σ H) := by
        obtain ⟨ρ, σz, h, F, E, s, kq, kx, w⟩ := q1
        unfold wEs at w
        exact kq [] h ρ H1 [] Nx.refl s.hr rfl w
      exact PySem.W.callWith_K0 (first := [.ref a]) I1.kIn me.kp (run_fnSD (us := [.ref a]) (vs := [.ref a]) (E := fun σ cls d H => W cls d σ H) F hr hb hd (passAt tk σ) I1 (.cons rfl .nil) q1)
    | cons e es =>
      refine PySem.W.callWith_K (first := [.ref a]) (h₀ := X.base) I.ok.mod.kin me.kp (thn (ha.run pos pins s1 σ H1 _ I1 q1) fun us s2 ⟨vs, H2, I2, r, q2⟩ => ⟨I2.kIn, ?_⟩) (hs e List.mem_cons_self es) (star_plain fun b hb => hs b (List.mem_cons_of_mem _ hb))
      exact run_fnSD (us := .ref a :: us) (vs := .ref a :: vs) (E := fun σ cls d H => W cls d σ H) F hr hb hd (passAt tk σ) I2 (.cons rfl r) q2
/-- a class called, where what is raised is wished for at the caller's slots -/
theorem run_makeSD {CX : CXT} {k : Nat} {C f : Addr} {fd : FuncData} {ps : List Str} {sp : Sp} {dvs : List V} {ds : List Value} {E : L2.St → XK} {pins : List (Addr × Obj)} {σ : L2.St} {H : Hp} {s : Shared} {Q : VK} {us : List Value} {vs : List V} (M : Mk X.K C f) (F : FnOk X.prog X.w X.K X.mg X.base CX k f fd ps sp) (hr : Room (k + 1) X.A) (hb : Binds X.K fd ps ds) (hd : Vals dvs ds)
    (hx : PassesAt CX X σ (E σ)) (I : Inv X pins σ H s) (r : Vals vs us)
    (h : ∀ x dx, H x = none → H dx = none → dx ≠ x → sp (.ref x :: (vs ++ dvs)) (upd (upd H dx (.own x)) x (.ins C dx [])) (fun v H2 => v = .non ∧ Q (.ref x) H2) (E σ)) : wpAny (model X.prog X.w) X.A (call (.ref C) us) (EP X pins σ Q) X.xe s := by
  have fx := I.hok.fresh (Nat.le_succ s.heap.objs.size)
  have fd' := I.hok.fresh (Nat.le_refl s.heap.objs.size)
  have hq := h _ _ fx fd' (Nat.ne_of_lt (Nat.lt_succ_self _))
  have I2 := Inv.made (C := C) I
  have r2 : Vals (V.ref (s.heap.objs.size + 1) :: (vs ++ dvs)) (Value.ref (s.heap.objs.size + 1) :: (us ++ ds)) := .cons rfl (r.append hd)
  have hl : (Value.ref (s.heap.objs.size + 1) :: us ++ ds).length = ps.length := by rw [← F.len _ _ _ _ hq]; exact r2.length.symm
  have run := F.run _ X.stack _ _ ⟨Value.ref (s.heap.objs.size + 1) :: us, []⟩ (Value.ref (s.heap.objs.size + 1) :: (us ++ ds)) _ _ (E σ) (hr.make C us []) (I2.env0.make C us []) (hb _ (Value.ref (s.heap.objs.size + 1) :: us) I2.kIn hl) r2 hq
  refine wpAny_call (make_map (f := f) I.kIn M.makes M.init (beq_iff_eq.mp M.fn) (codeAny_mono run fun r s' hq' => ?_))
  match r, hq' with
  | .error e, hq' => exact hx pins _ _ e s' I2 hq'
  | .ok (.ret u), hq' =>
    obtain ⟨v, H', I3, rv, ev, q3⟩ := I2.after hq'
    subst ev
    exact ⟨rv, ⟨V.ref (s.heap.objs.size + 1), H', I3, rfl, q3⟩⟩
  | .ok .next, hq' => exact False.elim hq'
  | .ok .brk, hq' => exact False.elim hq'
  | .ok .cont, hq' => exact False.elim hq'
theorem ze_new {c : Str} {S : Spec} {i : Nat} (fr : NwReady X c S) (hG : Γ[i]? = some S) (tk : Takes X W) (hg : Gl X c) (hdb : (c == ("__debug__" : Str)) = false) (ha : PA X es (LA X W (wEs Γ xs)))
    (hx : es = [] → xs = []) (hs : ∀ a ∈ es, ∀ r, starEach (a :: r) X.env = (false, eval a X.env) :: starEach r X.env) : PE X (.Call (.Name c p) es [] pos) (LE X W (wE Γ (.new i c xs))) := by
  obtain ⟨C, f, fd, ps, j, sp, ds, dvs, hm, M, F, hr, hb, hd, imp⟩ := fr
  have main : ∀ (σ : L2.St) (H : Hp) (Q : VK), LE X W (wE Γ (.new i c xs)) σ H Q → LA X W (wEs Γ xs) σ H (fun vs H1 => ∀ x dx, H1 x = none → H1 dx = none → dx ≠ x → sp (.ref x :: (vs ++ dvs)) (upd (upd H1 dx (.own x)) x (.ins C dx [])) (fun v H2 => v = .non ∧ Q (.ref x) H2) (fun cls d H => W cls d σ H)) := by
    intro σ H Q ⟨ρ, σz, h, Fz, E, s, kq, kx, w⟩
    unfold wE at w
    refine ⟨ρ, σz, h, _, E, s, fun ys h1 ρ1 H1 vs n1 r1 ps w1 x dx fx fdx ne => ?_, kx, w⟩
    rw [hG] at w1
    obtain ⟨r2, n2⟩ := r1.tupl fdx (.own x)
    have fx2 : (upd H1 dx (.own x)) x = none := by rw [upd_ne (Ne.symm ne)]; exact fx
    obtain ⟨r3, n3⟩ := r2.alloc fx2 (u := .ins C dx []) (o := .ins c []) ⟨C, dx, [], hm, upd_same, rfl⟩
    have ex : (ρ1 ++ [x])[h1.length]? = some x := by rw [← r1.len]; simp
    have nn := n2.trans n3
    have ps3 := ps.nx r1 nn
    show sp ((.ref x :: vs) ++ dvs) _ _ _
    refine imp _ _ _ _ ⟨ρ1 ++ [x], h1 ++ [.ins c []], .ref h1.length :: ys, _, E, r3, ⟨_, _, rfl, ⟨x, ex, rfl⟩, ps3⟩, fun y h' ρ' H' v n r' p' q => ?_, (kx.nx n1).nx nn, w1⟩
    obtain ⟨rfl, q⟩ := q
    exact ⟨p', kq (.ref h1.length) h' ρ' H' _ ((n1.trans nn).trans n) r' ⟨x, n.at ex, rfl⟩ q⟩
  refine ⟨fun pins s σ H Q I q => ?_⟩
  have q := main σ H Q q
  cases es with
  | nil =>
    refine wpAny_Call_Name_kw (ld_glob I hg hm ?_ hdb)
    obtain rfl := hx rfl
    have q := (show ∀ x dx, H x = none → H dx = none → dx ≠ x → sp (.ref x :: ([] ++ dvs)) (upd (upd H dx (.own x)) x (.ins C dx [])) (fun v H2 => v = .non ∧ Q (.ref x) H2) (fun cls d H => W cls d σ H) from by
      obtain ⟨ρ, σz, h, F, E, s, kq, kx, w⟩ := q
      unfold wEs at w
      exact kq [] h ρ H [] Nx.refl s.hr rfl w)
    exact PySem.W.callWith_K0 I.kIn M.kp (run_makeSD (us := []) (E := fun σ cls d H => W cls d σ H) M F hr hb hd (passAt tk σ) I .nil q)
  | cons e es =>
    refine wpAny_Call_Name_kw (ld_glob I hg hm ?_ hdb)
    refine PySem.W.callWith_K (h₀ := X.base) I.ok.mod.kin M.kp (thn (ha.run pos pins s σ H _ I q) fun us s1 ⟨vs, H1, I1, r, q⟩ => ⟨I1.kIn, ?_⟩) (hs e List.mem_cons_self es) (star_plain fun b hb => hs b (List.mem_cons_of_mem _ hb))
    exact run_makeSD (E := fun σ cls d H => W cls d σ H) M F hr hb hd (passAt tk σ) I1 r q
end
end Z

/-! ZsH: targets, what is walked, comprehensions. -/
namespace Z
open PySem PyProof.Rows L2

/-! ### targets -/
mutual
def slotsT : Tg → List Nat
  | .nm i => [i]
  | .tp ts => slotsTs ts
def slotsTs : List Tg → List Nat
  | [] => []
  | t :: ts => slotsT t ++ slotsTs ts
end
section
variable {X : Cx} {W : WX} {e a b c : Expr} {es : List Expr} {pos p : Pos} {Γ : List Spec} {x y : Ex} {xs : List Ex}
/-- the same but at some slots -/
def But (vs : List Nat) (σ σ' : L2.St) : Prop := σ'.length = σ.length ∧ ∀ j, j ∉ vs → σ'[j]? = σ[j]?
theorem But.refl {vs : List Nat} {σ : L2.St} : But vs σ σ := ⟨rfl, fun _ _ => rfl⟩
theorem But.trans {vs ws : List Nat} {σ σ1 σ2 : L2.St} (h : But vs σ σ1) (k : But ws σ1 σ2) : But (vs ++ ws) σ σ2 :=
  ⟨k.1.trans h.1, fun j hj => (k.2 j fun z => hj (List.mem_append_right _ z)).trans (h.2 j fun z => hj (List.mem_append_left _ z))⟩
def LG (X : Cx) (t : Tg) : TG := fun v σ H Q => ∃ (ρ : List Addr) (σz : Env) (h : Hep) (x : PV), SR X ρ σz h σ H ∧ Rep X.K ρ H x v ∧ ∃ σz', tgt t x σz = some σz' ∧ ∀ σ', SR X ρ σz' h σ' H → But (slotsT t) σ σ' → Q σ' H
def LGs (X : Cx) (ts : List Tg) : TGs := fun vs σ H Q => ∃ (ρ : List Addr) (σz : Env) (h : Hep) (xs : List PV), SR X ρ σz h σ H ∧ Reps X.K ρ H xs vs ∧ ∃ σz', tgts ts xs σz = some σz' ∧ ∀ σ', SR X ρ σz' h σ' H → But (slotsTs ts) σ σ' → Q σ' H
theorem pg_imp {t t' : TG} (h : PG X e t) (k : ∀ v σ H Q, t' v σ H Q → t v σ H Q) : PG X e t' := ⟨fun pins s σ H v u Q I r q => h.run pins s σ H v u Q I r (k _ _ _ _ q)⟩
theorem pgs_imp {t t' : TGs} (h : PGs X es t) (k : ∀ v σ H Q, t' v σ H Q → t v σ H Q) : PGs X es t' := ⟨fun pins s σ H v u Q I r q => h.run pins s σ H v u Q I r (k _ _ _ _ q)⟩
theorem zg_name {i : Nat} {nm : Str} (hN : X.N.Nodup) (hi : X.N[i]? = some nm) (hx : Loc X.env.scope nm) (hf : X.fn nm = true ∨ X.env.scope.names.lookup nm = some .local) : PG X (.Name nm p) (LG X (.nm i)) := by
  refine pg_imp (pg_name hN hi hx hf) fun v σ H Q ⟨ρ, σz, h, y, s, py, σz', e, k⟩ => ?_
  unfold tgt at e
  cases e
  refine k _ (s.set i py) ⟨by rw [List.length_set], fun j hj => ?_⟩
  have hj : j ∉ [i] := hj
  exact List.getElem?_set_ne (fun z => hj (by simp [z]))
theorem zgs_nil : PGs X [] (LGs X []) := pgs_imp pgs_nil fun vs σ H Q ⟨ρ, σz, h, ys, s, ps, σz', e, k⟩ => by
  cases ys with
  | nil =>
    cases ps
    unfold tgts at e
    cases e
    exact ⟨rfl, k σ s .refl⟩
  | cons _ _ => unfold tgts at e; cases e
theorem zgs_cons {t : Tg} {ts : List Tg} (h1 : PG X e (LG X t)) (h2 : PGs X es (LGs X ts)) (hs : (assignEach (e :: es) X.env).map (·.2) = assign e X.env :: (assignEach es X.env).map (·.2)) : PGs X (e :: es) (LGs X (t :: ts)) := by
  refine pgs_imp (pgs_cons h1 h2 hs) fun vs σ H Q ⟨ρ, σz, h, ys, s, ps, σz', e, k⟩ => ?_
  cases ys with
  | nil => unfold tgts at e; cases e
  | cons y ys =>
    obtain ⟨v, r, rfl, py, ps⟩ := ps
    unfold tgts at e
    split at e
    · rename_i σz1 e1
      refine ⟨v, r, rfl, ρ, σz, h, y, s, py, σz1, e1, fun σ1 s1 b1 => ?_⟩
      exact ⟨ρ, σz1, h, ys, s1, ps, σz', e, fun σ2 s2 b2 => k σ2 s2 (b1.trans b2)⟩
    · cases e
theorem zg_tup {ts : List Tg} {k : Nat} (hc : X.calm = true) (h : PGs X es (LGs X ts)) (hn : (assignEach es X.env).length = ts.length) (hst : (assignEach es X.env).findIdx? (·.1) = none) : PG X (.Tuple es k pos) (LG X (.tp ts)) := by
  refine pg_imp (pg_tup hc h hn hst) fun v σ H Q ⟨ρ, σz, h, y, s, py, σz', e, k⟩ => ?_
  have lens : ∀ (ts : List Tg) (ys : List PV) (σz σz' : Env), tgts ts ys σz = some σz' → ys.length = ts.length := by
    intro ts
    induction ts with
    | nil =>
      intro ys σz σz' e
      cases ys with
      | nil => rfl
      | cons _ _ => unfold tgts at e; cases e
    | cons t ts ih =>
      intro ys σz σz' e
      cases ys with
      | nil => unfold tgts at e; cases e
      | cons y ys =>
        unfold tgts at e
        split at e
        · rw [List.length_cons, List.length_cons, ih ys _ _ e]
        · cases e
  cases y with
  | tup ys =>
    obtain ⟨a, vs, rfl, t, ps⟩ := py
    have e' : tgts ts ys σz = some σz' := e
    exact ⟨a, vs, rfl, t.sq, by rw [← ps.len]; exact lens ts ys σz σz' e', ρ, σz, h, ys, s, ps, σz', e', k⟩
  | itp ys =>
    obtain ⟨a, vs, rfl, t, ps⟩ := py
    have e' : tgts ts ys σz = some σz' := e
    exact ⟨a, vs, rfl, t.sq, by rw [← ps.len]; exact lens ts ys σz σz' e', ρ, σz, h, ys, s, ps, σz', e', k⟩
  | _ => cases e

/-! ### what is walked -/
/-- how a walk tells its items, from (ρ, H) on -/
def ItOk (X : Cx) (ρ : List Addr) (H : Hp) (J : It) (items : List PV) (g : Grd) : Prop :=
  ∀ (ρ' : List Addr) (h' : Hep) (H' : Hp), Nx ρ H ρ' H' → HR X.K X.mg ρ' h' H' → grdOk h' g → ∀ i : Nat, (items.length = i → J.stop i H') ∧
    ∀ it, items[i]? = some it → J.go i H' ∧ ∀ (v : V) (H2 : Hp), J.yld i H' v H2 → Nx ρ' H' ρ' H2 ∧ HR X.K X.mg ρ' h' H2 ∧ Rep X.K ρ' H2 it v
def LI (X : Cx) (W : WX) (w : Env → Hep → (List PV → Grd → Hep → Prop) → KX → Prop) : TI := fun σ H R => ∃ (ρ : List Addr) (σz : Env) (h : Hep) (F : List PV → Grd → Hep → Prop) (E : KX), SR X ρ σz h σ H ∧
  (∀ (items : List PV) (g : Grd) (h1 : Hep) (ρ1 : List Addr) (H1 : Hp) (J : It), Nx ρ H ρ1 H1 → HR X.K X.mg ρ1 h1 H1 → ItOk X ρ1 H1 J items g → F items g h1 → R J H1) ∧ KXok X W σ ρ H E ∧ w σz h F E
theorem pi_imp {tg it : Expr} {t t' : TI} (h : PI X tg it t) (k : ∀ σ H R, t' σ H R → t σ H R) : PI X tg it t' := ⟨fun pins s σ H R I q => h.run pins s σ H R I (k _ _ _ q)⟩
theorem HR.same (r : ∀ {ρ h H}, HR X.K X.mg ρ h H → True) : True := trivial
theorem itok_tup {ρ : List Addr} {H : Hp} {a : Addr} {ys : List PV} {vs : List V} {h : Hep} (r : HR X.K X.mg ρ h H) (t : TL X.K H a vs) (ps : Reps X.K ρ H ys vs) : ItOk X ρ H (Itt X.K a) ys [] := by
  intro ρ' h' H' n r' _ i
  have t' := t.nx r n
  have ps' := ps.nx r n
  refine ⟨fun hi => ⟨vs, t'.sq, by rw [← ps'.len]; exact Nat.le_of_eq hi⟩, fun it e => ?_⟩
  obtain ⟨v, ev, pv⟩ := ps'.get e
  refine ⟨⟨vs, v, t'.sq, ev⟩, fun u H2 y => ?_⟩
  obtain ⟨rfl, y⟩ := y
  have e2 := y vs t'.sq
  rw [ev] at e2
  cases e2
  exact ⟨.refl, r', pv⟩
theorem itok_itp {ρ : List Addr} {H : Hp} {a : Addr} {ys : List PV} {vs : List V} {h : Hep} (r : HR X.K X.mg ρ h H) (t : Zh.Whole X.K H a vs) (ps : Reps X.K ρ H ys vs) : ItOk X ρ H (Itt X.K a) ys [] := by
  intro ρ' h' H' n r' _ i
  have t' := wh_nx t r n
  have ps' := ps.nx r n
  refine ⟨fun hi => ⟨vs, t'.sq, by rw [← ps'.len]; exact Nat.le_of_eq hi⟩, fun it e => ?_⟩
  obtain ⟨v, ev, pv⟩ := ps'.get e
  refine ⟨⟨vs, v, t'.sq, ev⟩, fun u H2 y => ?_⟩
  obtain ⟨rfl, y⟩ := y
  have e2 := y vs t'.sq
  rw [ev] at e2
  cases e2
  exact ⟨.refl, r', pv⟩
theorem itok_ils {ρ : List Addr} {H : Hp} {a : Addr} {ys : List PV} {vs : List V} {h : Hep} (r : HR X.K X.mg ρ h H) (t : IL X.K H a vs) (ps : Reps X.K ρ H ys vs) : ItOk X ρ H (Itl X.K a) ys [] := by
  intro ρ' h' H' n r' _ i
  have t' := t.nx r n
  have ps' := ps.nx r n
  refine ⟨fun hi => ⟨vs, t'.sq, by rw [← ps'.len]; exact Nat.le_of_eq hi⟩, fun it e => ?_⟩
  obtain ⟨v, ev, pv⟩ := ps'.get e
  refine ⟨⟨vs, v, t'.sq, ev⟩, fun u H2 y => ?_⟩
  obtain ⟨rfl, y⟩ := y
  have e2 := y vs t'.sq
  rw [ev] at e2
  cases e2
  exact ⟨.refl, r', pv⟩
theorem itok_lst {ρ : List Addr} {H : Hp} {a : Addr} {i : Nat} {ys : List PV} (e1 : ρ[i]? = some a) : ItOk X ρ H (Itl X.K a) ys [(i, .lst ys)] := by
  intro ρ' h' H' n r' g j
  obtain ⟨b, vs, e2, k, ps⟩ := r'.lst g.1
  have e1 := n.at e1
  rw [e1] at e2; cases e2
  refine ⟨fun hi => ⟨vs, SqL.of k, by rw [← ps.len]; exact Nat.le_of_eq hi⟩, fun it e => ?_⟩
  obtain ⟨v, ev, pv⟩ := ps.get e
  refine ⟨⟨vs, v, SqL.of k, ev⟩, fun u H2 y => ?_⟩
  obtain ⟨rfl, y⟩ := y
  have e2 := y vs (SqL.of k)
  rw [ev] at e2
  cases e2
  exact ⟨.refl, r', pv⟩
theorem signs_get {z : Str} {i : Nat} {it : PV} (e : (signsOf z)[i]? = some it) : ∃ c, z.cps[i]? = some c ∧ it = .str ⟨#[c]⟩ := by
  unfold signsOf at e
  rw [List.getElem?_map, Array.getElem?_toList] at e
  cases g : z.cps[i]? with
  | none => rw [g] at e; cases e
  | some c => rw [g] at e; cases e; exact ⟨c, rfl, rfl⟩
theorem itok_str {ρ : List Addr} {H : Hp} {z : Str} : ItOk X ρ H (Its z) (signsOf z) [] := by
  intro ρ' h' H' n r' _ i
  refine ⟨fun hi => ?_, fun it e => ?_⟩
  · have : z.cps.size ≤ i := by have hi := Nat.le_of_eq hi; unfold signsOf at hi; simpa using hi
    exact this
  · obtain ⟨c, g, rfl⟩ := signs_get e
    refine ⟨(Array.getElem?_eq_some_iff.mp g).1, fun v H2 y => ?_⟩
    obtain ⟨rfl, c', g', rfl⟩ := y
    rw [g] at g'
    cases g'
    exact ⟨.refl, r', rfl⟩
/-- any list, any tuple, any text -/
theorem zi_walk {tg : Expr} (he : PE X e (LE X W (wE Γ x))) : PI X tg e (LI X W (wI Γ (.wlk x))) := by
  refine ⟨fun pins s σ H R I ⟨ρ, σz, h, F, E, sr, kq, kx, w⟩ => ?_⟩
  have w : wE Γ x σz h (fun x h1 => walkW h1 x fun xs g => F xs g h1) E := w
  refine thn (he.run pins s σ H (fun v H1 => (∃ z, v = .str z ∧ R (Its z) H1) ∨ ∃ a, v = .ref a ∧ ((∃ vs, SqL X.K H1 a vs ∧ R (Itl X.K a) H1) ∨ ∃ vs, SqT X.K H1 a vs ∧ R (Itt X.K a) H1)) I ⟨ρ, σz, h, _, E, sr, fun y h1 ρ1 H1 v n1 r1 p1 w1 => ?_, kx, w⟩) fun u s1 ⟨v, H1, I1, rv, q0⟩ => ?_
  · cases y with
    | str z =>
      obtain rfl := p1
      exact .inl ⟨z, rfl, kq (signsOf z) [] h1 ρ1 H1 _ n1 r1 itok_str w1⟩
    | tup ys =>
      obtain ⟨a, vs, rfl, t, ps⟩ := p1
      exact .inr ⟨a, rfl, .inr ⟨vs, t.sq, kq ys [] h1 ρ1 H1 _ n1 r1 (itok_tup r1 t ps) w1⟩⟩
    | itp ys =>
      obtain ⟨a, vs, rfl, t, ps⟩ := p1
      exact .inr ⟨a, rfl, .inr ⟨vs, t.sq, kq ys [] h1 ρ1 H1 _ n1 r1 (itok_itp r1 t ps) w1⟩⟩
    | ils ys =>
      obtain ⟨a, vs, rfl, t, ps⟩ := p1
      exact .inr ⟨a, rfl, .inl ⟨vs, t.sq, kq ys [] h1 ρ1 H1 _ n1 r1 (itok_ils r1 t ps) w1⟩⟩
    | ref i =>
      obtain ⟨a, vs, ys, rfl, e1, k, e, ps, w1⟩ := listed r1 p1 (show getL h1 i fun xs => F xs [(i, .lst xs)] h1 from w1)
      exact .inr ⟨a, rfl, .inl ⟨vs, SqL.of k, kq ys [(i, .lst ys)] h1 ρ1 H1 _ n1 r1 (itok_lst e1) w1⟩⟩
    | _ => exact False.elim w1
  · rcases q0 with ⟨z, rfl, q⟩ | ⟨a, ev, q⟩
    · obtain ⟨t, rfl⟩ := rv
      cases ha : z.cps.all (· < 128)
      · exact wpAny_pyIter_wide ha (pi_one (tk := s1.toks) I1 _ (turn_str s1.heap.objs.size z t "str_iterator" (.inr rfl)) ⟨_, Heap.get?_push_size _ rfl, rfl, rfl⟩ q)
      · exact wpAny_pyIter_ascii ha (pi_one (tk := s1.toks) I1 _ (turn_str s1.heap.objs.size z t "str_ascii_iterator" (.inl rfl)) ⟨_, Heap.get?_push_size _ rfl, rfl, rfl⟩ q)
    subst ev
    rcases q with ⟨vs, hq, q⟩ | ⟨vs, hq, q⟩
    · have hx : PE X e (fun σ' H' Q => σ' = σ ∧ H' = H1 ∧ False) := ⟨fun _ _ _ _ _ _ z => z.2.2.elim⟩
      cases rv
      obtain ⟨its, rvs, pl, hz⟩ := I1.list hq
      refine wpAny_pyIter_list pl.isList ?_
      refine ⟨s1.heap.objs.size, [s1.heap.objs.size], _, _, H1, rfl, I1.kept (t' := s1.toks) fun b o e => Heap.get?_push_of_some _ e, turn_list a _, ⟨_, Heap.get?_push_size _ rfl, rfl, rfl⟩, fun b hb => ?_, q⟩
      rw [show b = s1.heap.objs.size by simpa using hb]
      exact I1.fpOk (Nat.le_refl _) (I1.hok.fresh (Nat.le_refl _))
    · cases rv
      obtain ⟨its, rvs, pl, hz⟩ := I1.tuple hq
      refine wpAny_pyIter_tuple (show s1.heap.IsTuple a its.toArray from pl) ?_
      refine ⟨s1.heap.objs.size, [s1.heap.objs.size], _, _, H1, rfl, I1.kept (t' := s1.toks) fun b o e => Heap.get?_push_of_some _ e, turn_tuple a _, ⟨_, Heap.get?_push_size _ rfl, rfl, rfl⟩, fun b hb => ?_, q⟩
      rw [show b = s1.heap.objs.size by simpa using hb]
      exact I1.fpOk (Nat.le_refl _) (I1.hok.fresh (Nat.le_refl _))
/-- ranges -/
theorem itok_rng {ρ : List Addr} {H : Hp} {lo : Int} {n : Nat} : ItOk X ρ H (Itr lo n) (rngL lo n) [] := by
  intro ρ' h' H' nx r' _ i
  have hl : (rngL lo n).length = n := by unfold rngL; rw [List.length_map, List.length_range]
  refine ⟨fun hi => by rw [hl] at hi; exact Nat.le_of_eq hi, fun it e => ?_⟩
  have hi : i < n := by rw [← hl]; exact (List.getElem?_eq_some_iff.mp e).1
  refine ⟨hi, fun v H2 y => ?_⟩
  obtain ⟨rfl, rfl⟩ := y
  unfold rngL at e
  rw [List.getElem?_map, List.getElem?_range hi] at e
  cases e
  exact ⟨.refl, r', rfl⟩
theorem zi_rng1 {tg : Expr} (hg : Gl X "range") (hm : X.mg "range" = none) (ha : PE X a (LE X W (wE Γ x))) (hs : starEach [a] X.env = [(false, eval a X.env)]) : PI X tg (.Call (.Name "range" p) [a] [] pos) (LI X W (wI Γ (.rng1 x))) := by
  refine pi_imp (pi_range1 hg hm (pa_cons ha pa_nil hs) hs) fun σ H R ⟨ρ, σz, h, F, E, sr, kq, kx, w⟩ => ?_
  unfold wI at w
  refine ⟨ρ, σz, h, _, E, sr, fun y h1 ρ1 H1 v n1 r1 p1 w1 => ?_, kx, w⟩
  split at w1
  · rename_i j
    obtain rfl := p1
    obtain ⟨z1, z2, w1⟩ := w1
    exact ⟨j, rfl, z1, z2, kq _ _ _ _ _ _ n1 r1 itok_rng w1⟩
  · exact w1.elim
theorem zi_rng2 {tg : Expr} (hg : Gl X "range") (hm : X.mg "range" = none) (ha : PE X a (LE X W (wE Γ x))) (hb : PE X b (LE X W (wE Γ y))) (hs : starEach [a, b] X.env = (false, eval a X.env) :: starEach [b] X.env) (hs2 : starEach [b] X.env = [(false, eval b X.env)]) : PI X tg (.Call (.Name "range" p) [a, b] [] pos) (LI X W (wI Γ (.rng2 x y))) := by
  refine pi_imp (pi_range2 hg hm (pa_cons ha (pa_cons hb pa_nil hs2) hs) (hs.trans (by rw [hs2])) hs2) fun σ H R ⟨ρ, σz, h, F, E, sr, kq, kx, w⟩ => ?_
  unfold wI at w
  refine ⟨ρ, σz, h, _, E, sr, fun y h1 ρ1 H1 v n1 r1 p1 w1 => ?_, kx, w⟩
  refine ⟨ρ1, σz, h1, _, E, sr.nx n1 r1, fun z h2 ρ2 H2 u n2 r2 p2 w2 => ?_, kx.nx n1, w1⟩
  split at w2
  · rename_i i j
    obtain rfl := p1
    obtain rfl := p2
    obtain ⟨z1, z2, z3, z4, w2⟩ := w2
    exact ⟨i, j, rfl, ⟨z1, z2, z3, z4⟩, kq _ _ _ _ _ _ (n1.trans n2) r2 itok_rng w2⟩
  · exact w2.elim
theorem itok_rngC {ρ : List Addr} {H : Hp} {i c : Int} {n : Nat} : ItOk X ρ H (Itc i c n) (rngC i c n) [] := by
  intro ρ' h' H' n1 r' gg k
  have hl : (rngC i c n).length = n := by simp [rngC]
  refine ⟨fun hi => by show n ≤ k; omega, fun it e => ?_⟩
  have hk : k < n := by have := (List.getElem?_eq_some_iff.mp e).1; omega
  refine ⟨hk, fun u H2 q => ?_⟩
  obtain ⟨rfl, rfl⟩ := q
  unfold rngC at e
  rw [List.getElem?_map, List.getElem?_range hk] at e
  cases e
  exact ⟨.refl, r', rfl⟩
theorem zi_rng3 {tg : Expr} {z : Ex} (hg : Gl X "range") (hm : X.mg "range" = none) (ha : PE X a (LE X W (wE Γ x))) (hb : PE X b (LE X W (wE Γ y))) (hc : PE X c (LE X W (wE Γ z))) (hs : starEach [a, b, c] X.env = (false, eval a X.env) :: starEach [b, c] X.env) (hs2 : starEach [b, c] X.env = (false, eval b X.env) :: starEach [c] X.env) (hs3 : starEach [c] X.env = [(false, eval c X.env)]) : PI X tg (.Call (.Name "range" p) [a, b, c] [] pos) (LI X W (wI Γ (.rng3 x y z))) := by
  refine pi_imp (pi_range3 hg hm (pa_cons ha (pa_cons hb (pa_cons hc pa_nil hs3) hs2) hs) hs (by rw [hs2, hs3]; rfl)) fun σ H R ⟨ρ, σz, h, F, E, sr, kq, kx, w⟩ => ?_
  unfold wI at w
  refine ⟨ρ, σz, h, _, E, sr, fun y h1 ρ1 H1 v n1 r1 p1 w1 => ?_, kx, w⟩
  refine ⟨ρ1, σz, h1, _, E, sr.nx n1 r1, fun z h2 ρ2 H2 u n2 r2 p2 w2 => ?_, kx.nx n1, w1⟩
  refine ⟨ρ2, σz, h2, _, E, (sr.nx n1 r1).nx n2 r2, fun z3 h3 ρ3 H3 u3 n3 r3 p3 w3 => ?_, (kx.nx n1).nx n2, w2⟩
  split at w3
  · rename_i i j k
    obtain rfl := p1
    obtain rfl := p2
    obtain rfl := p3
    obtain ⟨n, z1, w3⟩ := w3
    exact ⟨i, j, k, n, rfl, z1, kq _ _ _ _ _ _ ((n1.trans n2).trans n3) r3 itok_rngC w3⟩
  · exact w3.elim
/-- enumerate of a list -/
theorem enumL_get : ∀ (ys : List PV) (k i : Nat), (enumL k ys)[i]? = (ys[i]?).map fun y => PV.tup [.int ((k + i : Nat) : Int), y]
  | [], k, i => by simp [enumL]
  | y :: r, k, 0 => by simp [enumL]
  | y :: r, k, i + 1 => by
    show (enumL (k + 1) r)[i]? = _
    rw [enumL_get r (k + 1) i, show k + 1 + i = k + (i + 1) by omega]
    rfl
theorem enumL_len : ∀ (ys : List PV) (k : Nat), (enumL k ys).length = ys.length
  | [], _ => rfl
  | y :: r, k => by show (enumL (k + 1) r).length + 1 = _; rw [enumL_len r, List.length_cons]
/-- a new pair for a turn -/
theorem pair_turn {ρ : List Addr} {h : Hep} {H : Hp} (r : HR X.K X.mg ρ h H) {T : Addr} (hT : H T = none) {ys : List PV} {vs : List V} (ps : Reps X.K ρ H ys vs) : Nx ρ H ρ (upd H T (.tup vs)) ∧ HR X.K X.mg ρ h (upd H T (.tup vs)) ∧ Rep X.K ρ (upd H T (.tup vs)) (.tup ys) (.ref T) := by
  obtain ⟨r1, n1⟩ := r.tupl hT (.tup vs)
  exact ⟨n1, r1, T, vs, rfl, upd_same, ps.nx r n1⟩
theorem itok_enum {ρ : List Addr} {H : Hp} {t : Bool} {a : Addr} {ys : List PV} {g : Grd} (all : ∀ (ρ' : List Addr) (h' : Hep) (H' : Hp), Nx ρ H ρ' H' → HR X.K X.mg ρ' h' H' → grdOk h' g → ∃ vs, Zh.SqB t X.K H' a vs ∧ Reps X.K ρ' H' ys vs) : ItOk X ρ H (Zh.IteB t X.K a) (enumL 0 ys) g := by
  intro ρ' h' H' n r' gg i
  obtain ⟨vs, sq, ps⟩ := all ρ' h' H' n r' gg
  refine ⟨fun hi => ⟨vs, sq, by rw [← ps.len, ← enumL_len ys 0]; exact hi⟩, fun it e => ?_⟩
  rw [enumL_get] at e
  cases ey : ys[i]? with
  | none => rw [ey] at e; cases e
  | some y =>
    rw [ey] at e
    cases e
    obtain ⟨v, ev, pv⟩ := ps.get ey
    refine ⟨⟨vs, v, sq, ev⟩, fun u H2 q => ?_⟩
    obtain ⟨T, z, rfl, hT, rfl, q⟩ := q
    have e2 := q vs sq
    rw [ev] at e2
    cases e2
    refine pair_turn r' hT ⟨_, _, rfl, ?_, v, [], rfl, pv, rfl⟩
    show V.int (i : Int) = V.int ((0 + i : Nat) : Int)
    rw [Nat.zero_add]
/-- a list or a tuple that is walked -/
theorem walk_seq {ρ : List Addr} {h : Hep} {H : Hp} {x : PV} {v : V} {F : List PV → Grd → Prop} (r : HR X.K X.mg ρ h H) (p : Rep X.K ρ H x v) {G : List PV → Prop} (l : seqW h x G) (hG : ∀ xs, G xs → walkW h x fun _ g => F xs g) :
    ∃ (t : Bool) (a : Addr) (vs : List V) (xs : List PV) (g : Grd), v = .ref a ∧ Zh.SqB t X.K H a vs ∧ F xs g ∧ ∀ (ρ' : List Addr) (h' : Hep) (H' : Hp), Nx ρ H ρ' H' → HR X.K X.mg ρ' h' H' → grdOk h' g → ∃ vs, Zh.SqB t X.K H' a vs ∧ Reps X.K ρ' H' xs vs := by
  cases x with
  | ils ys =>
    obtain ⟨a, vs, rfl, t, ps⟩ := p
    exact ⟨false, a, vs, ys, [], rfl, t.sq, hG ys l, fun ρ' h' H' n r' g => ⟨vs, (t.nx r n).sq, ps.nx r n⟩⟩
  | tup ys =>
    obtain ⟨a, vs, rfl, t, ps⟩ := p
    exact ⟨true, a, vs, ys, [], rfl, t.sq, hG ys l, fun ρ' h' H' n r' g => ⟨vs, (t.nx r n).sq, ps.nx r n⟩⟩
  | itp ys =>
    obtain ⟨a, vs, rfl, t, ps⟩ := p
    exact ⟨true, a, vs, ys, [], rfl, t.sq, hG ys l, fun ρ' h' H' n r' g => ⟨vs, (wh_nx t r n).sq, ps.nx r n⟩⟩
  | ref i =>
    obtain ⟨a, vs, ys, rfl, e1, k, e, ps, l⟩ := listed r p (show getL h i G from l)
    obtain ⟨ys', e', w⟩ := getL_some (show getL h i _ from hG ys l)
    rw [e] at e'
    cases e'
    refine ⟨false, a, vs, ys, [(i, .lst ys)], rfl, SqL.of k, w, fun ρ' h' H' n r' g => ?_⟩
    obtain ⟨b, vs', e2, k', ps'⟩ := r'.lst g.1
    rw [n.at e1] at e2; cases e2
    exact ⟨vs', SqL.of k', ps'⟩
  | _ => exact False.elim l
theorem zi_enum {elts : List Expr} {kk : Nat} {tpos : Pos} (hg : Gl X "enumerate") (hm : X.mg "enumerate" = none) (ha : PE X a (LE X W (wE Γ x))) (hs : starEach [a] X.env = [(false, eval a X.env)]) : PI X (.Tuple elts kk tpos) (.Call (.Name "enumerate" p) [a] [] pos) (LI X W (wI Γ (.enum x))) := by
  refine pi_imp (Zh.pi_enumB hg hm (pa_cons ha pa_nil hs) hs) fun σ H R ⟨ρ, σz, h, F, E, sr, kq, kx, w⟩ => ?_
  unfold wI at w
  refine ⟨ρ, σz, h, _, E, sr, fun y h1 ρ1 H1 v n1 r1 p1 w1 => ?_, kx, w⟩
  obtain ⟨t, a, vs, xs, g, rfl, sq, w2, all⟩ := walk_seq (F := fun xs g => F (enumL 0 xs) g h1) r1 p1 (show seqW h1 y _ from w1) fun xs q => q
  exact ⟨t, a, vs, rfl, sq, kq _ g h1 ρ1 H1 _ n1 r1 (itok_enum all) w2⟩
/-! ### zip of two lists -/
theorem zipL_get : ∀ (xs ys : List PV) (i : Nat) (it : PV), (zipL xs ys)[i]? = some it → ∃ x y, xs[i]? = some x ∧ ys[i]? = some y ∧ it = .tup [x, y]
  | x :: xs, y :: ys, 0, it, e => by simp [zipL] at e; exact ⟨x, y, rfl, rfl, e.symm⟩
  | x :: xs, y :: ys, i + 1, it, e => zipL_get xs ys i it (by simpa [zipL] using e)
  | [], _, i, it, e => by simp [zipL] at e
  | _ :: _, [], i, it, e => by simp [zipL] at e
theorem zipL_len : ∀ (xs ys : List PV), (zipL xs ys).length = min xs.length ys.length
  | x :: xs, y :: ys => by simp [zipL, zipL_len xs ys]
  | [], _ => by simp [zipL]
  | _ :: _, [] => by simp [zipL]
theorem itok_zip {ρ : List Addr} {H : Hp} {t u : Bool} {a b : Addr} {xs ys : List PV} {g : Grd} (all : ∀ (ρ' : List Addr) (h' : Hep) (H' : Hp), Nx ρ H ρ' H' → HR X.K X.mg ρ' h' H' → grdOk h' g → (∃ vs, Zh.SqB t X.K H' a vs ∧ Reps X.K ρ' H' xs vs) ∧ ∃ vs, Zh.SqB u X.K H' b vs ∧ Reps X.K ρ' H' ys vs) : ItOk X ρ H (Zh.ItzB t u X.K a b) (zipL xs ys) g := by
  intro ρ' h' H' n r' gg i
  obtain ⟨⟨vs, sq, ps⟩, ws, sq2, ps2⟩ := all ρ' h' H' n r' gg
  refine ⟨fun hi => ⟨vs, ws, sq, sq2, ?_⟩, fun it e => ?_⟩
  · rw [zipL_len] at hi
    rw [← ps.len, ← ps2.len]
    omega
  · obtain ⟨x, y, ex, ey, rfl⟩ := zipL_get _ _ _ _ e
    obtain ⟨v, ev, pv⟩ := ps.get ex
    obtain ⟨w, eu, pu⟩ := ps2.get ey
    refine ⟨⟨vs, ws, v, w, sq, sq2, ev, eu⟩, fun w' H2 q => ?_⟩
    obtain ⟨T, z, z2, rfl, hT, rfl, q, q2⟩ := q
    have e2 := q vs sq
    rw [ev] at e2
    cases e2
    have e3 := q2 ws sq2
    rw [eu] at e3
    cases e3
    exact pair_turn r' hT ⟨_, _, rfl, pv, _, [], rfl, pu, rfl⟩
theorem grd_app {h : Hep} : ∀ {g g' : Grd}, grdOk h (g ++ g') → grdOk h g ∧ grdOk h g'
  | [], _, q => ⟨trivial, q⟩
  | (r, xs) :: g, g', q => ⟨⟨q.1, (grd_app q.2).1⟩, (grd_app q.2).2⟩
theorem zi_zip {elts : List Expr} {kk : Nat} {tpos : Pos} (hg : Gl X "zip") (hm : X.mg "zip" = none) (ha : PE X a (LE X W (wE Γ x))) (hb : PE X b (LE X W (wE Γ y))) (hs : starEach [a, b] X.env = (false, eval a X.env) :: starEach [b] X.env) (hs2 : starEach [b] X.env = [(false, eval b X.env)]) :
    PI X (.Tuple elts kk tpos) (.Call (.Name "zip" p) [a, b] [] pos) (LI X W (wI Γ (.zip x y))) := by
  refine pi_imp (Zh.pi_zipB hg hm (pa_cons ha (pa_cons hb pa_nil hs2) hs) hs (by rw [hs2]; rfl)) fun σ H R ⟨ρ, σz, h, F, E, sr, kq, kx, w⟩ => ?_
  unfold wI at w
  refine ⟨ρ, σz, h, _, E, sr, fun y h1 ρ1 H1 v n1 r1 p1 w1 => ?_, kx, w⟩
  refine ⟨ρ1, σz, h1, _, E, sr.nx n1 r1, fun z h2 ρ2 H2 u n2 r2 p2 w2 => ?_, kx.nx n1, w1⟩
  -- both are walked
  have same : ∀ {q : PV} {G : List PV → Prop}, seqW h2 q G → ∃ xs, seqW h2 q (· = xs) ∧ G xs := by
    intro q G l
    cases q with
    | ref i =>
      obtain ⟨ys, e, l⟩ := getL_some (show getL h2 i G from l)
      refine ⟨ys, ?_, l⟩
      show getL h2 i _
      unfold getL
      rw [e]
    | ils ys => exact ⟨ys, rfl, l⟩
    | tup ys => exact ⟨ys, rfl, l⟩
    | itp ys => exact ⟨ys, rfl, l⟩
    | _ => exact False.elim l
  have wk : ∀ {q : PV} {xs : List PV} {F : List PV → Grd → Prop}, seqW h2 q (· = xs) → walkW h2 q (fun _ g => F xs g) → ∀ ys, ys = xs → walkW h2 q fun _ g => ys = xs ∧ F xs g := by
    intro q xs F l w ys ey
    cases q with
    | ref i =>
      obtain ⟨zs, e, w⟩ := getL_some (show getL h2 i _ from w)
      show getL h2 i _
      unfold getL
      rw [e]
      exact ⟨ey, w⟩
    | ils _ => exact ⟨ey, w⟩
    | tup _ => exact ⟨ey, w⟩
    | itp _ => exact ⟨ey, w⟩
    | _ => exact False.elim l
  obtain ⟨xs, l1, w2⟩ := same (show seqW h2 y _ from w2)
  obtain ⟨ys, l2, w2⟩ := same (show seqW h2 z _ from w2)
  obtain ⟨t, a, vs, xs', g, rfl, sq, ⟨exs, w3⟩, all⟩ := walk_seq (F := fun xs' g => xs' = xs ∧ walkW h2 z fun _ g' => F (zipL xs ys) (g ++ g') h2) r2 (p1.nx r1 n2) l1 fun xs' e => by
    subst e
    exact wk (F := fun _ g => walkW h2 z fun _ g' => F (zipL xs' ys) (g ++ g') h2) l1 w2 _ rfl
  obtain ⟨t', b, us, ys', g', rfl, sq2, ⟨eys, w4⟩, all2⟩ := walk_seq (F := fun ys' g' => ys' = ys ∧ F (zipL xs ys) (g ++ g') h2) r2 p2 l2 fun ys' e => by
    subst e
    exact wk (F := fun _ g' => F (zipL xs ys') (g ++ g') h2) l2 w3 _ rfl
  subst exs eys
  exact ⟨t, t', a, b, vs, us, rfl, sq, sq2, kq _ _ h2 ρ2 H2 _ (n1.trans n2) r2 (itok_zip fun ρ' h' H' n r' gg => ⟨all ρ' h' H' n r' (grd_app gg).1, all2 ρ' h' H' n r' (grd_app gg).2⟩) w4⟩
end
end Z

/-! ZsI: comprehensions. -/
namespace Z
open PySem PyProof.Rows L2
section
variable {X : Cx} {W : WX} {e a b c : Expr} {es : List Expr} {pos p : Pos} {Γ : List Spec} {x y : Ex} {xs : List Ex}
variable {K : PySem.W.Frag} {mg : Str → Option Value} {ρ ρ' : List Addr} {h : Hep} {H H' : Hp}

/-! ### a list that isn't ours yet -/
theorem stay_off {D : Addr} {vs ws : List V} (e : H D = some (.lst vs)) : Stay K ρ H ρ (upd H D (.lst ws)) := by
  refine ⟨fun a us t => ?_, fun a us t => ?_, fun a us t => ?_, fun a cls d t => ?_, fun a fs t => ?_, fun i a q => q⟩
  · have n : a ≠ D := ne_of (o := .tup us) (u := .lst vs) t e (by intro z; cases z)
    show upd H D (.lst ws) a = _
    rw [upd_ne n]
    exact t
  · rcases t with ⟨o, t⟩ | t
    · have n : a ≠ D := ne_of (o := .frz o (.lst us)) (u := .lst vs) t e (by intro z; cases z)
      refine .inl ⟨o, ?_⟩
      rw [upd_ne n]
      exact t
    · exact .inr t
  · rcases t with ⟨o, d, t⟩ | t
    · have n : a ≠ D := ne_of (o := .frz o (.tup us)) (u := .lst vs) t e (by intro z; cases z)
      refine .inl ⟨o, d, ?_⟩
      rw [upd_ne n]
      exact t
    · exact .inr t
  · have n : a ≠ D := ne_of (o := Zh.KeptX cls d a) (u := .lst vs) t e (by intro z; have z' : HO.ext _ = HO.lst vs := z; cases z')
    rw [upd_ne n]
    exact t
  · have n : a ≠ D := ne_of (o := .xd fs) (u := .lst vs) t e (by intro z; cases z)
    rw [upd_ne n]
    exact t
theorem HR.off (r : HR K mg ρ h H) {D : Addr} {vs ws : List V} (e : H D = some (.lst vs)) (nD : D ∉ ρ) : HR K mg ρ h (upd H D (.lst ws)) :=
  ⟨r.len, r.nd, fun i o a h1 h2 => RepO.stay (stay_off e) (upd_ne fun z => nD (z ▸ List.mem_of_getElem? h2)) (r.ob i o a h1 h2)⟩
theorem Nx.off (n : Nx ρ H ρ' H') {D : Addr} (e : H D = none) (o : HO) : Nx ρ H ρ' (upd H' D o) :=
  ⟨n.pre, fun a u q z => by rw [upd_ne (ne_of_none q e)]; exact n.fr a u q z, n.nw⟩
theorem HR.adopt (r : HR K mg ρ h H) {D : Addr} {xs : List PV} {vs : List V} (e : H D = some (.lst vs)) (nD : D ∉ ρ) (ps : Reps K ρ H xs vs) : HR K mg (ρ ++ [D]) (h ++ [.lst xs]) H := by
  have st : Stay K ρ H (ρ ++ [D]) H := ⟨fun _ _ t => t, fun _ _ t => t, fun _ _ t => t, fun _ _ _ t => t, fun _ _ t => t, fun i a q => by rw [List.getElem?_append_left (List.getElem?_eq_some_iff.mp q).1]; exact q⟩
  refine ⟨by rw [List.length_append, List.length_append, r.len] <;> rfl, ?_, fun i w a h1 h2 => ?_⟩
  · rw [List.nodup_append]
    refine ⟨r.nd, by simp, fun a ha b hb => ?_⟩
    rw [List.mem_singleton.mp hb]
    exact fun z => nD (z ▸ ha)
  · by_cases hi : i < h.length
    · rw [List.getElem?_append_left hi] at h1
      rw [List.getElem?_append_left (by rw [r.len]; exact hi)] at h2
      exact RepO.stay st rfl (r.ob i w a h1 h2)
    · have hl : i < (h ++ [Ob.lst xs]).length := (List.getElem?_eq_some_iff.mp h1).1
      rw [List.length_append] at hl
      have hi' : i = h.length := by simp at hl; omega
      subst hi'
      rw [List.getElem?_append_right (Nat.le_refl _), Nat.sub_self] at h1
      rw [← r.len, List.getElem?_append_right (Nat.le_refl _), Nat.sub_self] at h2
      cases h1
      cases h2
      exact ⟨vs, e, Reps.stay st xs vs ps⟩
theorem wipe_get (σ : L2.St) : ∀ (vs : List Nat) (j : Nat), (L2.wipe σ vs)[j]? = if j ∈ vs ∧ j < σ.length then some none else σ[j]?
  | [], j => by simp [L2.wipe]
  | v :: vs, j => by
    show ((L2.wipe σ vs).set v none)[j]? = _
    have ih := wipe_get σ vs j
    by_cases hj : v = j
    · subst hj
      by_cases hl : v < σ.length
      · rw [List.getElem?_set_self (by rw [L2.wipe_length]; exact hl), if_pos ⟨List.mem_cons_self, hl⟩]
      · rw [List.getElem?_eq_none (by rw [List.length_set, L2.wipe_length]; omega), if_neg (fun z => hl z.2), List.getElem?_eq_none (by omega)]
    · rw [List.getElem?_set_ne hj, ih]
      by_cases hm : j ∈ vs ∧ j < σ.length
      · rw [if_pos hm, if_pos ⟨List.mem_cons_of_mem _ hm.1, hm.2⟩]
      · rw [if_neg hm, if_neg]
        rintro ⟨h1, h2⟩
        rcases List.mem_cons.mp h1 with z | z
        · exact hj z.symm
        · exact hm ⟨z, h2⟩
theorem wipe_but {vs ws : List Nat} {σ σ' : L2.St} (bt : But ws (L2.wipe σ vs) σ') (sub : ∀ j ∈ ws, j ∈ vs) : L2.wipe σ' vs = L2.wipe σ vs := by
  have hl : σ'.length = σ.length := by rw [bt.1, L2.wipe_length]
  refine List.ext_getElem? fun j => ?_
  rw [wipe_get, hl]
  by_cases hm : j ∈ vs ∧ j < σ.length
  · rw [if_pos hm, wipe_get, if_pos hm]
  · rw [if_neg hm]
    by_cases hv : j ∈ vs
    · have hlt : σ.length ≤ j := Nat.le_of_not_lt fun z => hm ⟨hv, z⟩
      rw [List.getElem?_eq_none (by omega), List.getElem?_eq_none (by rw [L2.wipe_length]; omega)]
    · exact bt.2 j fun z => hv (sub j z)

/-! ### comprehensions -/
theorem le_comp {own : List Nat} {t : Tg} {it : Ex} {co : Option Ex} {wi : Env → Hep → (List PV → Grd → Hep → Prop) → KX → Prop} {tt : TT} {te : TE} {el : Ex} (sub : ∀ j ∈ slotsT t, j ∈ own)
    (htt : ∀ σ H Q, LT X (fun _ _ _ _ => False) (fun σz h F _ => wC Γ co σz h F) σ H Q → tt σ H Q) (hte : ∀ σ H Q, LE X (fun _ _ _ _ => False) (wE Γ el) σ H Q → te σ H Q) (σ : L2.St) (H : Hp) (Q : VK)
    (q : LE X W (fun σz h F E => wi σz h (fun items g h1 => wComp g t (fun σ' h' G => wC Γ co σ' h' G) (fun σ' h' G => wE Γ el σ' h' G noX) (wipeZ σz own) items [] h1 fun acc h2 => F (.ref h2.length) (h2 ++ [.lst acc])) E) σ H Q) :
    tLc (LI X W wi) (LG X t) tt te own σ H Q := by
  obtain ⟨ρ, σz, h, F, E, sr, kq, kx, w⟩ := q
  refine ⟨ρ, σz, h, _, E, sr, fun items g h1 ρ1 H1 J n1 r1 ok w1 => ?_, kx, w⟩
  intro D hD
  have nD1 : D ∉ ρ1 := r1.fresh hD
  have hD0 : H D = none := by
    cases z : H D with
    | none => rfl
    | some o =>
      by_cases hm : D ∈ ρ
      · exact absurd (n1.mem hm) nD1
      · rw [n1.fr D o z hm] at hD
        cases hD
  refine ⟨fun i m H' => i + m = items.length ∧ ∃ (ρ' : List Addr) (h' : Hep) (acc : List PV) (av : List V), Nx ρ1 H1 ρ' H' ∧ HR X.K X.mg ρ' h' H' ∧ H' D = some (.lst av) ∧ Reps X.K ρ' H' acc av ∧ D ∉ ρ' ∧ SR X ρ' (wipeZ σz own) h' (L2.wipe σ own) H' ∧
      wComp g t (fun σ' h' G => wC Γ co σ' h' G) (fun σ' h' G => wE Γ el σ' h' G noX) (wipeZ σz own) (items.drop i) acc h' fun acc h2 => F (.ref h2.length) (h2 ++ [.lst acc]), ⟨items.length, by omega, ?_⟩, ?_⟩
  · obtain ⟨r2, n2⟩ := r1.tupl hD (.lst [])
    exact ⟨ρ1, h1, [], [], n2, r2, upd_same, rfl, nD1, ((sr.nx n1 r1).wipe own).nx n2 r2, by rw [List.drop_zero]; exact w1⟩
  · rintro i m H2 ⟨hi, ρ2, h2, acc, av, n2, r2, hD2, pa, nD2, s2, w2⟩
    by_cases hlt : i < items.length
    · refine .inr ?_
      have hd : items.drop i = items[i] :: items.drop (i + 1) := List.drop_eq_getElem_cons hlt
      rw [hd] at w2
      unfold wComp at w2
      obtain ⟨gk, w2⟩ := w2
      obtain ⟨go, yl⟩ := (ok ρ2 h2 H2 n2 r2 gk i).2 items[i] (List.getElem?_eq_getElem hlt)
      refine ⟨go, fun H' => ∃ (ρ' : List Addr) (h' : Hep) (acc : List PV) (av : List V), Nx ρ1 H1 ρ' H' ∧ HR X.K X.mg ρ' h' H' ∧ H' D = some (.lst av) ∧ Reps X.K ρ' H' acc av ∧ D ∉ ρ' ∧ SR X ρ' (wipeZ σz own) h' (L2.wipe σ own) H' ∧
        wComp g t (fun σ' h' G => wC Γ co σ' h' G) (fun σ' h' G => wE Γ el σ' h' G noX) (wipeZ σz own) (items.drop (i + 1)) acc h' fun acc h2 => F (.ref h2.length) (h2 ++ [.lst acc]), fun H' z => ⟨m - 1, by omega, by omega, z⟩, fun v H3 y => ?_⟩
      obtain ⟨n3, r3, pv⟩ := yl v H3 y
      split at w2
      · rename_i σz' et
        refine ⟨ρ2, wipeZ σz own, h2, items[i], s2.nx n3 r3, pv, σz', et, fun σ' s' bt => ⟨wipe_but bt sub, ?_⟩⟩
        refine htt σ' H3 _ ⟨ρ2, σz', h2, fun b h1 => if b = true then wE Γ el σz' h1 (fun y h2 => acc.length < big ∧ wComp g t (fun σ' h' G => wC Γ co σ' h' G) (fun σ' h' G => wE Γ el σ' h' G noX) (wipeZ σz own) (items.drop (i + 1)) (acc ++ [y]) h2 fun acc h2 => F (.ref h2.length) (h2 ++ [.lst acc])) noX else wComp g t (fun σ' h' G => wC Γ co σ' h' G) (fun σ' h' G => wE Γ el σ' h' G noX) (wipeZ σz own) (items.drop (i + 1)) acc h1 fun acc h2 => F (.ref h2.length) (h2 ++ [.lst acc]), noX, s', fun b h4 ρ4 H4 n4 r4 w4 => ?_, KXok.no, w2⟩
        have n34 := n3.trans n4
        have hD4 : H4 D = some (.lst av) := n34.fr D _ hD2 nD2
        have nD4 : D ∉ ρ4 := fun z => by
          have q := n34.nw D z nD2
          rw [hD2] at q
          cases q
        cases b with
        | false =>
          rw [if_neg Bool.false_ne_true] at w4
          exact iteF ⟨ρ4, h4, acc, av, n2.trans n34, r4, hD4, pa.nx r2 n34, nD4, s2.nx n34 r4, w4⟩
        | true =>
          rw [if_pos rfl] at w4
          refine iteT (hte σ' H4 _ ⟨ρ4, σz', h4, _, noX, s'.nx n4 r4, fun z h5 ρ5 H5 u n5 r5 pz w5 => ?_, KXok.no, w4⟩)
          obtain ⟨lz, w5⟩ := w5
          have n35 := n34.trans n5
          have hD5 : H5 D = some (.lst av) := n35.fr D _ hD2 nD2
          have nD5 : D ∉ ρ5 := fun z => by
            have q := n35.nw D z nD2
            rw [hD2] at q
            cases q
          have pa5 := pa.nx r2 n35
          have st := stay_off (K := X.K) (ρ := ρ5) (ws := av ++ [u]) hD5
          have s5 := s2.nx n35 r5
          refine ⟨av, hD5, by rw [← big_eq, ← pa5.len]; exact lz, ρ5, h5, acc ++ [z], av ++ [u], (n2.trans n35).off hD _, r5.off hD5 nD5, upd_same, Reps.stay st _ _ (pa5.app (Reps.one pz)), nD5, ⟨r5.off hD5 nD5, s5.len, fun j x' ej => ?_⟩, w5⟩
          obtain ⟨v', ev', pv'⟩ := s5.sl j x' ej
          exact ⟨v', ev', Rep.stay st _ _ pv'⟩
      · exact w2.elim
    · have hi' : i = items.length := by omega
      subst hi'
      rw [List.drop_length] at w2
      unfold wComp at w2
      obtain ⟨gk, w2⟩ := w2
      refine .inl ⟨(ok ρ2 h2 H2 n2 r2 gk _).1 rfl, ?_⟩
      have n02 := n1.trans n2
      refine kq (.ref h2.length) _ (ρ2 ++ [D]) H2 (.ref D) ⟨?_, n02.fr, fun a ha na => ?_⟩ (r2.adopt hD2 nD2 pa) ⟨D, by rw [← r2.len]; simp, rfl⟩ w2
      · obtain ⟨u, hu⟩ := n02.pre
        exact ⟨u ++ [D], by rw [hu, List.append_assoc]⟩
      · rcases List.mem_append.mp ha with z | z
        · exact n02.nw a z na
        · rw [List.mem_singleton.mp z]; exact hD0
/-! ### a dict walked: it is locked -/
theorem d1_nth : ∀ {kvs : List (Ky × PV)} {ws : List (Key × V)} {i : Nat} {it : PV}, RepD1 K ρ H kvs ws → (kvs.map fun p => keyV p.1)[i]? = some it → ∃ k v, ws[i]? = some (k, v) ∧ it = atomV k
  | [], _, _, _, _, e => by simp at e
  | (j, x) :: r, _, 0, it, ⟨j', v, r', e1, e2, p, ps⟩, e => by
    subst e1 e2
    simp at e
    exact ⟨j', v, rfl, e.symm⟩
  | (j, x) :: r, _, i + 1, it, ⟨j', v, r', e1, e2, p, ps⟩, e => by
    subst e1
    obtain ⟨k, v, h1, h2⟩ := d1_nth (i := i) ps (by simpa using e)
    exact ⟨k, v, by simpa using h1, h2⟩
theorem d2_nth : ∀ {kvs : List (Ky × PV)} {ws : List (List Key × V)} {i : Nat} {it : PV}, RepD2 K ρ H kvs ws → (kvs.map fun p => keyV p.1)[i]? = some it → ∃ k v, ws[i]? = some (k, v) ∧ it = .tup (k.map atomV)
  | [], _, _, _, _, e => by simp at e
  | (j, x) :: r, _, 0, it, ⟨j', v, r', e1, e2, p, ps⟩, e => by
    subst e1 e2
    simp at e
    exact ⟨j', v, rfl, e.symm⟩
  | (j, x) :: r, _, i + 1, it, ⟨j', v, r', e1, e2, p, ps⟩, e => by
    subst e1
    obtain ⟨k, v, h1, h2⟩ := d2_nth (i := i) ps (by simpa using e)
    exact ⟨k, v, by simpa using h1, h2⟩
theorem rep_atom (k : Key) : Rep K ρ H (atomV k) (kV k) := by cases k <;> rfl
theorem reps_atoms : ∀ ks : List Key, Reps K ρ H (ks.map atomV) (ks.map kV)
  | [] => rfl
  | k :: ks => ⟨kV k, ks.map kV, rfl, rep_atom k, reps_atoms ks⟩
theorem len1 : ∀ {kvs : List (Ky × PV)} {ws : List (Key × V)}, RepD1 K ρ H kvs ws → kvs.length = ws.length
  | [], _, q => by cases q; rfl
  | (j, y) :: r, _, ⟨j', u, r', e, e2, p, ps⟩ => by subst e; rw [List.length_cons, List.length_cons, len1 ps]
theorem len2 : ∀ {kvs : List (Ky × PV)} {ws : List (List Key × V)}, RepD2 K ρ H kvs ws → kvs.length = ws.length
  | [], _, q => by cases q; rfl
  | (j, y) :: r, _, ⟨j', u, r', e, e2, p, ps⟩ => by subst e; rw [List.length_cons, List.length_cons, len2 ps]
theorem itok_dK {a : Addr} {i : Nat} {o : Obj} {ws : List (Key × V)} {kvs : List (Ky × PV)} (e1 : ρ[i]? = some a) : ItOk X ρ H (Itk a o ws) (kvs.map fun p => keyV p.1) [(i, .ldc (.frz o (.dK ws)) kvs)] := by
  intro ρ' h' H' n r' g j
  obtain ⟨b, e2, hd, q⟩ := r'.get g.1
  have e1 := n.at e1
  rw [e1] at e2; cases e2
  rcases q with ⟨o', ws', e3, q⟩ | ⟨_, _, e3, _⟩
  · cases e3
    have l := len1 q
    refine ⟨fun hi => ⟨hd, by rw [List.length_map] at hi; omega⟩, fun it e => ?_⟩
    have hj := (List.getElem?_eq_some_iff.mp e).1
    rw [List.length_map] at hj
    refine ⟨⟨hd, by omega⟩, fun u H2 y => ?_⟩
    obtain ⟨rfl, k, v, y1, rfl⟩ := y
    obtain ⟨k2, v2, z1, rfl⟩ := d1_nth q e
    rw [y1] at z1
    cases z1
    exact ⟨.refl, r', rep_atom _⟩
  · cases e3
theorem itok_dT {a : Addr} {i : Nat} {o : Obj} {ws : List (List Key × V)} {kvs : List (Ky × PV)} (e1 : ρ[i]? = some a) : ItOk X ρ H (Itkt a o ws) (kvs.map fun p => keyV p.1) [(i, .ldc (.frz o (.dT ws)) kvs)] := by
  intro ρ' h' H' n r' g j
  obtain ⟨b, e2, hd, q⟩ := r'.get g.1
  have e1 := n.at e1
  rw [e1] at e2; cases e2
  rcases q with ⟨_, _, e3, _⟩ | ⟨o', ws', e3, q⟩
  · cases e3
  · cases e3
    have l := len2 q
    refine ⟨fun hi => ⟨hd, by rw [List.length_map] at hi; omega⟩, fun it e => ?_⟩
    have hj := (List.getElem?_eq_some_iff.mp e).1
    rw [List.length_map] at hj
    refine ⟨⟨hd, by omega⟩, fun u H2 y => ?_⟩
    obtain ⟨rfl, k, v, p, y1, rfl, y2⟩ := y
    obtain ⟨k2, v2, z1, rfl⟩ := d2_nth q e
    rw [y1] at z1
    cases z1
    exact ⟨.refl, r', p, _, rfl, y2, reps_atoms _⟩
theorem zi_wld {tg : Expr} {i : Nat} (he : PE X e (LE X W (wE Γ (.var i)))) : PI X tg e (LI X W (wI Γ (.wld i))) := by
  refine pi_imp (pi_keys he) fun σ H R ⟨ρ, σz, h, F, E, sr, kq, kx, w⟩ => ?_
  unfold wI at w
  split at w
  · rename_i r es
    split at w
    · rename_i u kvs er
      refine ⟨ρ, σz, h, fun x h1 => x = .ref r ∧ h1 = h, E, sr, fun y h1 ρ1 H1 v n1 r1 p1 w1 => ?_, kx, by unfold wE; rw [es]; exact ⟨rfl, rfl⟩⟩
      obtain ⟨rfl, rfl⟩ := w1
      obtain ⟨a, e1, rfl⟩ := p1
      obtain ⟨b, e2, hd, q⟩ := r1.get er
      rw [e1] at e2; cases e2
      rcases q with ⟨o, ws, rfl, q⟩ | ⟨o, ws, rfl, q⟩
      · exact ⟨a, o, rfl, .inl ⟨ws, hd, kq _ _ _ ρ1 H1 _ n1 r1 (itok_dK e1) w⟩⟩
      · exact ⟨a, o, rfl, .inr ⟨ws, hd, kq _ _ _ ρ1 H1 _ n1 r1 (itok_dT e1) w⟩⟩
    · exact w.elim
  · exact w.elim
theorem zi_wlx {tg : Expr} {y : Ex} (he : PE X e (LE X W (wE Γ y))) : PI X tg e (LI X W (wI Γ (.wlx y))) := by
  refine pi_imp (pi_keys he) fun σ H R ⟨ρ, σz, h, F, E, sr, kq, kx, w⟩ => ?_
  unfold wI at w
  refine ⟨ρ, σz, h, _, E, sr, fun y h1 ρ1 H1 v n1 r1 p1 w1 => ?_, kx, w⟩
  split at w1
  · rename_i r
    split at w1
    · rename_i u kvs er
      obtain ⟨a, e1, rfl⟩ := p1
      obtain ⟨b, e2, hd, q⟩ := r1.get er
      rw [e1] at e2; cases e2
      rcases q with ⟨o, ws, rfl, q⟩ | ⟨o, ws, rfl, q⟩
      · exact ⟨a, o, rfl, .inl ⟨ws, hd, kq _ _ _ ρ1 H1 _ n1 r1 (itok_dK e1) w1⟩⟩
      · exact ⟨a, o, rfl, .inr ⟨ws, hd, kq _ _ _ ρ1 H1 _ n1 r1 (itok_dT e1) w1⟩⟩
    · exact w1.elim
  · exact w1.elim
/-- locking, opening -/
theorem HR.lock (r : HR K mg ρ h H) {i : Nat} {kvs : List (Ky × PV)} (e : h[i]? = some (.dic kvs)) : ∃ a u, ρ[i]? = some a ∧ H a = some u ∧ Mut (some u) ∧ ∀ od, (HR K mg ρ (h.set i (.ldc (.frz od u) kvs)) (upd H a (.frz od u)) ∧ Nx ρ H ρ (upd H a (.frz od u))) ∧
    ∀ {ρ1 : List Addr} {h1 : Hep} {H1 : Hp}, Nx ρ (upd H a (.frz od u)) ρ1 H1 → HR K mg ρ1 h1 H1 → h1[i]? = some (.ldc (.frz od u) kvs) → H1 a = some (.frz od u) ∧ HR K mg ρ1 (h1.set i (.dic kvs)) (upd H1 a u) ∧ Nx ρ1 H1 ρ1 (upd H1 a u) := by
  obtain ⟨a, e1, q⟩ := r.get e
  have nx : ∀ {ρ : List Addr} {H : Hp} (o : HO), a ∈ ρ → Nx ρ H ρ (upd H a o) := fun {ρ H} o m => ⟨⟨[], by simp⟩, fun b w q z => by rw [upd_ne (fun y => z (by rw [y]; exact m) : b ≠ a)]; exact q, fun b q z => absurd q z⟩
  rcases q with ⟨ws, hd, q⟩ | ⟨ws, hd, q⟩
  · refine ⟨a, _, e1, hd, trivial, fun od => ⟨r.write e1 ⟨upd_same, .inl ⟨od, ws, rfl, RepD1.stay (r.stay (nx _ (List.mem_of_getElem? e1))) _ _ q⟩⟩, fun {ρ1 h1 H1} n r1 e2 => ?_⟩⟩
    obtain ⟨b, e3, hd1, q1⟩ := r1.get e2
    have e4 := n.at e1
    rw [e4] at e3; cases e3
    rcases q1 with ⟨o', ws', e5, q1⟩ | ⟨_, _, e5, _⟩
    · cases e5
      exact ⟨hd1, r1.write e4 (.inl ⟨ws, upd_same, RepD1.stay (r1.stay (nx _ (List.mem_of_getElem? e4))) _ _ q1⟩)⟩
    · cases e5
  · refine ⟨a, _, e1, hd, trivial, fun od => ⟨r.write e1 ⟨upd_same, .inr ⟨od, ws, rfl, RepD2.stay (r.stay (nx _ (List.mem_of_getElem? e1))) _ _ q⟩⟩, fun {ρ1 h1 H1} n r1 e2 => ?_⟩⟩
    obtain ⟨b, e3, hd1, q1⟩ := r1.get e2
    have e4 := n.at e1
    rw [e4] at e3; cases e3
    rcases q1 with ⟨_, _, e5, _⟩ | ⟨o', ws', e5, q1⟩
    · cases e5
    · cases e5
      exact ⟨hd1, r1.write e4 (.inr ⟨ws, upd_same, RepD2.stay (r1.stay (nx _ (List.mem_of_getElem? e4))) _ _ q1⟩)⟩
theorem ze_lka (hx : PE X e (LE X (fun _ _ _ _ => False) (wE Γ x))) : PE X e (LE X W (wE Γ (.lka x))) := by
  refine pe_imp (pe_lock hx) fun σ H Q ⟨ρ, σz, h, F, E, sr, kq, kx, w⟩ => ?_
  unfold wE at w
  obtain ⟨r, kvs, er, w⟩ := w
  obtain ⟨a, u, e1, hd, mu, all⟩ := sr.hr.lock er
  refine ⟨a, u, hd, mu, fun od => ?_⟩
  obtain ⟨⟨r1, n1⟩, back⟩ := all od
  refine ⟨ρ, σz, _, _, noX, sr.nx n1 r1, fun y h1 ρ1 H1 v n2 r2 p2 w2 => ?_, KXok.no, w (.frz od u)⟩
  obtain ⟨g, w2⟩ := w2
  obtain ⟨hd1, r3, n3⟩ := back n2 r2 g
  exact ⟨hd1, kq y _ ρ1 _ v (n1.trans (n2.trans n3)) r3 (p2.nx r2 n3) w2⟩
theorem ze_lck {i : Nat} (hx : PE X e (LE X (fun _ _ _ _ => False) (wE Γ x))) : PE X e (LE X W (wE Γ (.lck i x))) := by
  refine pe_imp (pe_lock hx) fun σ H Q ⟨ρ, σz, h, F, E, sr, kq, kx, w⟩ => ?_
  unfold wE at w
  split at w
  · rename_i r es
    obtain ⟨kvs, er, w⟩ := getD_some w
    obtain ⟨a, u, e1, hd, mu, all⟩ := sr.hr.lock er
    refine ⟨a, u, hd, mu, fun od => ?_⟩
    obtain ⟨⟨r1, n1⟩, back⟩ := all od
    refine ⟨ρ, σz, _, _, noX, sr.nx n1 r1, fun y h1 ρ1 H1 v n2 r2 p2 w2 => ?_, KXok.no, w (.frz od u)⟩
    obtain ⟨g, w2⟩ := w2
    obtain ⟨hd1, r3, n3⟩ := back n2 r2 g
    exact ⟨hd1, kq y _ ρ1 _ v (n1.trans (n2.trans n3)) r3 (p2.nx r2 n3) w2⟩
  · exact w.elim
end
end Z

/-! ZsJ: statements. -/
namespace Z
open PySem PyProof.Rows L2

structure DzOk (X : Cx) (W : WX) (ρ : List Addr) (H : Hp) (D : Ends) (Dd : Dz) : Prop where
  nx : ∀ (ρ' : List Addr) (σz' : Env) (h' : Hep) (σ' : L2.St) (H' : Hp), Nx ρ H ρ' H' → SR X ρ' σz' h' σ' H' → Dd.nx σz' h' → D.nx σ' H'
  bk : ∀ (ρ' : List Addr) (σz' : Env) (h' : Hep) (σ' : L2.St) (H' : Hp), Nx ρ H ρ' H' → SR X ρ' σz' h' σ' H' → Dd.bk σz' h' → D.bk σ' H'
  ct : ∀ (ρ' : List Addr) (σz' : Env) (h' : Hep) (σ' : L2.St) (H' : Hp), Nx ρ H ρ' H' → SR X ρ' σz' h' σ' H' → Dd.ct σz' h' → D.ct σ' H'
  rt : KQok X ρ H Dd.rt D.rt
  ex : ∀ (x : XV) (ρ' : List Addr) (σz' : Env) (h' : Hep) (σ' : L2.St) (H' : Hp) (cls : Value) (d : Option Addr), Nx ρ H ρ' H' → SR X ρ' σz' h' σ' H' → XR X.K X.mg ρ' H' x cls d → Dd.ex x σz' h' → W cls d σ' H'
theorem DzOk.go {X : Cx} {W : WX} {ρ ρ' : List Addr} {H H' : Hp} {D : Ends} {Dd : Dz} (k : DzOk X W ρ H D Dd) (n : Nx ρ H ρ' H') : DzOk X W ρ' H' D Dd :=
  ⟨fun a b c d e m => k.nx a b c d e (n.trans m), fun a b c d e m => k.bk a b c d e (n.trans m), fun a b c d e m => k.ct a b c d e (n.trans m), k.rt.nx n, fun a b c d e f g h m => k.ex a b c d e f g h (n.trans m)⟩
theorem DzOk.kx {X : Cx} {W : WX} {ρ : List Addr} {σz : Env} {h : Hep} {σ : L2.St} {H : Hp} {D : Ends} {Dd : Dz} (k : DzOk X W ρ H D Dd) (s : SR X ρ σz h σ H) : KXok X W σ ρ H (fun x h1 => Dd.ex x σz h1) :=
  fun x h' ρ' H' cls d n r xr w => k.ex x ρ' σz h' σ H' cls d n (s.nx n r) xr w
def LS (X : Cx) (W : WX) (w : Env → Hep → Dz → Prop) : TS := fun D σ H => ∃ (ρ : List Addr) (σz : Env) (h : Hep) (Dd : Dz), SR X ρ σz h σ H ∧ DzOk X W ρ H D Dd ∧ w σz h Dd

section
variable {X : Cx} {W : WX} {e a b c : Expr} {es : List Expr} {pos p : Pos} {Γ : List Spec} {x y : Ex} {xs : List Ex}
theorem ps_imp {s : Stmt} {t t' : TS} (h : PS X s t) (k : ∀ D σ H, t' D σ H → t D σ H) : PS X s t' := ⟨fun pins s σ H D I q => h.run pins s σ H D I (k _ _ _ q)⟩
theorem pss_imp {s : List Stmt} {t t' : TS} (h : PSs X s t) (k : ∀ D σ H, t' D σ H → t D σ H) : PSs X s t' := ⟨fun pins s σ H D I q => h.run pins s σ H D I (k _ _ _ q)⟩

theorem zss_nil : PSs X [] (LS X W (wSs Γ [])) := pss_imp pss_nil fun D σ H ⟨ρ, σz, h, Dd, s, k, w⟩ => by
  unfold wSs at w
  exact k.nx ρ σz h σ H .refl s w
theorem zss_cons {st : Stmt} {sts : List Stmt} {s : Sm} {r : List Sm} (h1 : PS X st (LS X W (wS Γ s))) (h2 : PSs X sts (LS X W (wSs Γ r))) : PSs X (st :: sts) (LS X W (wSs Γ (s :: r))) := by
  refine pss_imp (pss_cons h1 h2) fun D σ H ⟨ρ, σz, h, Dd, s, k, w⟩ => ?_
  unfold wSs at w
  refine ⟨ρ, σz, h, { Dd with nx := fun σ' h' => wSs Γ r σ' h' Dd }, s, ⟨fun ρ' σz' h' σ' H' n s' w' => ?_, k.bk, k.ct, k.rt, k.ex⟩, w⟩
  exact ⟨ρ', σz', h', Dd, s', k.go n, w'⟩
theorem zs_pss : PS X (.Pass pos) (LS X W (wS Γ .pss)) := ps_imp ps_pass fun D σ H ⟨ρ, σz, h, Dd, s, k, w⟩ => by
  unfold wS at w
  exact k.nx ρ σz h σ H .refl s w
theorem zs_brk : PS X (.Break pos) (LS X W (wS Γ .brk)) := ps_imp ps_break fun D σ H ⟨ρ, σz, h, Dd, s, k, w⟩ => by
  unfold wS at w
  exact k.bk ρ σz h σ H .refl s w
theorem zs_cnt : PS X (.Continue pos) (LS X W (wS Γ .cnt)) := ps_imp ps_continue fun D σ H ⟨ρ, σz, h, Dd, s, k, w⟩ => by
  unfold wS at w
  exact k.ct ρ σz h σ H .refl s w
theorem zs_doc {z : Str} {j : Nat} {p2 : Pos} : PS X (.Expr (.Constant (.str z) j p2) pos) (LS X W (wS Γ .doc)) := ps_imp ps_doc fun D σ H ⟨ρ, σz, h, Dd, s, k, w⟩ => by
  unfold wS at w
  exact k.nx ρ σz h σ H .refl s w
theorem zs_nev {st : Stmt} : PS X st (LS X W (wS Γ .nev)) := ps_imp ps_never fun D σ H ⟨ρ, σz, h, Dd, s, k, w⟩ => by
  unfold wS at w
  exact w
theorem zs_ret (ha : PE X a (LE X W (wE Γ x))) : PS X (.Return (some a) pos) (LS X W (wS Γ (.ret x))) := ps_imp (ps_ret ha) fun D σ H ⟨ρ, σz, h, Dd, s, k, w⟩ => by
  unfold wS at w
  exact ⟨ρ, σz, h, _, _, s, k.rt, k.kx s, w⟩
theorem zs_retN : PS X (.Return none pos) (LS X W (wS Γ .retN)) := ps_imp ps_retN fun D σ H ⟨ρ, σz, h, Dd, s, k, w⟩ => by
  unfold wS at w
  exact k.rt .non h ρ H .non .refl s.hr rfl w
theorem zs_exp (ha : PE X a (LE X W (wE Γ x))) (hs : swapsWith a none pos.line X.env = pure false) : PS X (.Expr a pos) (LS X W (wS Γ (.exp x))) := ps_imp (ps_expr ha hs) fun D σ H ⟨ρ, σz, h, Dd, s, k, w⟩ => by
  unfold wS at w
  exact ⟨ρ, σz, h, _, _, s, fun r h' ρ' H' v n hr rp w' => k.nx ρ' σz h' σ H' n (s.nx n hr) w', k.kx s, w⟩
theorem zs_ife {s1 s2 : List Stmt} {c1 c2 : List Sm} (hc : PT X c (LT X W (wT Γ x))) (ha : PSs X s1 (LS X W (wSs Γ c1))) (hb : PSs X s2 (LS X W (wSs Γ c2))) : PS X (.If c s1 s2 pos) (LS X W (wS Γ (.ife x c1 c2))) := ps_imp (ps_if hc ha hb) fun D σ H ⟨ρ, σz, h, Dd, s, k, w⟩ => by
  unfold wS at w
  refine ⟨ρ, σz, h, fun t h1 => if t = true then wSs Γ c1 σz h1 Dd else wSs Γ c2 σz h1 Dd, _, s, fun t h' ρ' H' n hr w' => ?_, k.kx s, w⟩
  cases t with
  | true => exact iteT ⟨ρ', σz, h', Dd, s.nx n hr, k.go n, w'⟩
  | false => exact iteF ⟨ρ', σz, h', Dd, s.nx n hr, k.go n, w'⟩
/-- a value stored at a target -/
theorem le_set {t : Tg} (D : Ends) (σ : L2.St) (H : Hp) (q : LS X W (wS Γ (.set t x)) D σ H) : LE X W (wE Γ x) σ H fun v H1 => LG X t v σ H1 D.nx := by
  obtain ⟨ρ, σz, h, Dd, s, k, w⟩ := q
  unfold wS at w
  refine ⟨ρ, σz, h, _, _, s, fun y h' ρ' H' v n hr py w' => ?_, k.kx s, w⟩
  split at w'
  · rename_i σz' e
    exact ⟨ρ', σz, h', y, s.nx n hr, py, σz', e, fun σ' s' _ => k.nx ρ' σz' h' σ' H' n s' w'⟩
  · exact w'.elim
theorem zs_set {t : Tg} {tg : Expr} (ha : PE X a (LE X W (wE Γ x))) (hg : PG X tg (LG X t)) (hs : swapsWithSole [tg] a pos.line X.env = pure false) (hw : swappedStores [tg] a X.env = pure none) (h1 : (assignEach [tg] X.env).map (·.2) = [assign tg X.env]) :
    PS X (.Assign [tg] a pos) (LS X W (wS Γ (.set t x))) := ps_imp (ps_asg ha hg hs hw h1) le_set
theorem zs_par {i j : Nat} {nm nm2 : Str} {px py pt : Pos} {kt k2 : Nat} {pt2 : Pos} (hc : X.calm = true) (hN : X.N.Nodup) (hi : X.N[i]? = some nm) (hj : X.N[j]? = some nm2) (hij : i ≠ j) (hx : X.env.scope.names.lookup nm = some .local) (hy : X.env.scope.names.lookup nm2 = some .local)
    (ha : PE X a (LE X W (wE Γ x))) (hb : PE X b (LE X W (wE Γ y))) (hs1 : starEach [a, b] X.env = (false, eval a X.env) :: starEach [b] X.env) (hs2 : starEach [b] X.env = (false, eval b X.env) :: starEach [] X.env)
    (hw : swappedStores [.Tuple [.Name nm px, .Name nm2 py] kt pt] (.Tuple [a, b] k2 pt2) X.env = pure (some [nm, nm2])) :
    PS X (.Assign [.Tuple [.Name nm px, .Name nm2 py] kt pt] (.Tuple [a, b] k2 pt2) pos) (LS X W (wS Γ (.par i j x y))) := ps_imp (ps_par hc hN hi hj hij hx hy (pa_cons ha (pa_cons hb pa_nil hs2) hs1) hw) fun D σ H ⟨ρ, σz, h, Dd, s, k, w⟩ => by
  unfold wS at w
  refine ⟨ρ, σz, h, _, _, s, fun y h' ρ' H' v n hr py w' => ?_, k.kx s, w⟩
  refine ⟨ρ', σz, h', _, _, s.nx n hr, fun z h2 ρ2 H2 u n2 hr2 pz w2 => ?_, (k.go n).kx (s.nx n hr), w'⟩
  refine ⟨v, u, rfl, k.nx ρ2 _ h2 _ H2 (n.trans n2) ?_ w2⟩
  exact (((s.nx n hr).nx n2 hr2).set i (py.nx hr n2)).set j pz
theorem zs_par3 {i j l : Nat} {z : Ex} {d : Expr} {n1 n2 n3 : Str} {px py pz pt : Pos} {kt k2 : Nat} {pt2 : Pos} (hc : X.calm = true) (hN : X.N.Nodup) (hi : X.N[i]? = some n1) (hj : X.N[j]? = some n2) (hl : X.N[l]? = some n3) (hij : i ≠ j) (hil : i ≠ l) (hjl : j ≠ l) (hx : X.env.scope.names.lookup n1 = some .local) (hy : X.env.scope.names.lookup n2 = some .local) (hz : X.env.scope.names.lookup n3 = some .local)
    (ha : PE X a (LE X W (wE Γ x))) (hb : PE X b (LE X W (wE Γ y))) (hd : PE X d (LE X W (wE Γ z))) (hs1 : starEach [a, b, d] X.env = (false, eval a X.env) :: starEach [b, d] X.env) (hs2 : starEach [b, d] X.env = (false, eval b X.env) :: starEach [d] X.env) (hs3 : starEach [d] X.env = (false, eval d X.env) :: starEach [] X.env)
    (hw : swappedStores [.Tuple [.Name n1 px, .Name n2 py, .Name n3 pz] kt pt] (.Tuple [a, b, d] k2 pt2) X.env = pure (some [n1, n2, n3])) :
    PS X (.Assign [.Tuple [.Name n1 px, .Name n2 py, .Name n3 pz] kt pt] (.Tuple [a, b, d] k2 pt2) pos) (LS X W (wS Γ (.par3 i j l x y z))) := ps_imp (ps_par3 hc hN hi hj hl hij hil hjl hx hy hz (pa_cons ha (pa_cons hb (pa_cons hd pa_nil hs3) hs2) hs1) hw) fun D σ H ⟨ρ, σz, h, Dd, s, k, w⟩ => by
  unfold wS at w
  refine ⟨ρ, σz, h, _, _, s, fun y h' ρ' H' v n hr py w' => ?_, k.kx s, w⟩
  refine ⟨ρ', σz, h', _, _, s.nx n hr, fun z h2 ρ2 H2 u n2 hr2 pz w2 => ?_, (k.go n).kx (s.nx n hr), w'⟩
  refine ⟨ρ2, σz, h2, _, _, (s.nx n hr).nx n2 hr2, fun q h3 ρ3 H3 t n3 hr3 pq w3 => ?_, ((k.go n).go n2).kx ((s.nx n hr).nx n2 hr2), w2⟩
  refine ⟨v, u, t, rfl, k.nx ρ3 _ h3 _ H3 ((n.trans n2).trans n3) ?_ w3⟩
  exact (((((s.nx n hr).nx n2 hr2).nx n3 hr3).set i ((py.nx hr n2).nx hr2 n3)).set j (pz.nx hr2 n3)).set l pq
theorem zs_sto {z : Ex} {p2 : Pos} (hu : X.A.units + 1 < cLine) (hv : PE X e (LE X W (wE Γ z))) (ho : PE X a (LE X W (wE Γ x))) (hi : PE X b (LE X W (wE Γ y))) (hs : swapsWith e (some (.Subscript a b p2)) pos.line X.env = pure false) :
    PS X (.Assign [.Subscript a b p2] e pos) (LS X W (wS Γ (.sto x y z))) := by
  refine ⟨fun pins s σ H D I ⟨ρ, σz, h, Dd, sr, k, w⟩ => ?_⟩
  unfold wS at w
  refine wpAny_Assign_Subscript (thn (hv.run pins s σ H (fun v H1 => ∃ (ρ1 : List Addr) (h1 : Hep) (vz : PV), Nx ρ H ρ1 H1 ∧ HR X.K X.mg ρ1 h1 H1 ∧ Rep X.K ρ1 H1 vz v ∧ wE Γ x σz h1 (fun x h2 => wE Γ y σz h2 (fun y h3 => storeW x y vz h3 fun h4 => Dd.nx σz h4) fun x h1 => Dd.ex x σz h1) fun x h1 => Dd.ex x σz h1) I
    ⟨ρ, σz, h, _, _, sr, fun vz h1 ρ1 H1 v n1 r1 p1 w1 => ⟨ρ1, h1, vz, n1, r1, p1, w1⟩, k.kx sr, w⟩) fun rv s1 ⟨v, H1, I1, rrv, ρ1, h1, vz, n1, r1, p1, w1⟩ => ?_) hs
  have s1' := sr.nx n1 r1
  refine thn (ho.run pins s1 σ H1 (fun o H2 => ∃ (ρ2 : List Addr) (h2 : Hep) (oz : PV), Nx ρ1 H1 ρ2 H2 ∧ HR X.K X.mg ρ2 h2 H2 ∧ Rep X.K ρ2 H2 oz o ∧ wE Γ y σz h2 (fun y h3 => storeW oz y vz h3 fun h4 => Dd.nx σz h4) fun x h1 => Dd.ex x σz h1) I1
    ⟨ρ1, σz, h1, _, _, s1', fun oz h2 ρ2 H2 o n2 r2 p2 w2 => ⟨ρ2, h2, oz, n2, r2, p2, w2⟩, (k.go n1).kx s1', w1⟩) fun ro s2 ⟨o, H2, I2, rro, ρ2, h2, oz, n2, r2, p2, w2⟩ => ?_
  have s2' := s1'.nx n2 r2
  refine thn (hi.run pins s2 σ H2 (fun i H3 => ∃ (ρ3 : List Addr) (h3 : Hep) (iz : PV), Nx ρ2 H2 ρ3 H3 ∧ HR X.K X.mg ρ3 h3 H3 ∧ Rep X.K ρ3 H3 iz i ∧ storeW oz iz vz h3 fun h4 => Dd.nx σz h4) I2
    ⟨ρ2, σz, h2, _, _, s2', fun iz h3 ρ3 H3 i n3 r3 p3 w3 => ⟨ρ3, h3, iz, n3, r3, p3, w3⟩, ((k.go n1).go n2).kx s2', w2⟩) fun ri s3 ⟨i, H3, I3, rri, ρ3, h3, iz, n3, r3, p3, w3⟩ => ?_
  have p1' := (p1.nx r1 n2).nx r2 n3
  have p2' := p2.nx r2 n3
  refine thn (set_all (Q := fun H4 => D.nx σ H4) hu I3 rro rri rrv r3 p2' p3 p1' w3 fun h4 H4 n4 r4 w4 => ?_) fun _ s4 ⟨H4, I4, q4⟩ => ⟨σ, H4, I4, q4⟩
  exact k.nx ρ3 σz h4 σ H4 (((n1.trans n2).trans n3).trans n4) ((s2'.nx n3 r3).nx n4 r4) w4
theorem zs_stf {z : Ex} {c f : Str} {fl : List Str} {p2 : Pos} (cr : ClReady X c fl) (hf : f ∈ fl) (hv : PE X e (LE X W (wE Γ z))) (ho : PE X a (LE X W (wE Γ x))) (hs : swapsWith e (some (.Attribute a f p2)) pos.line X.env = pure false) :
    PS X (.Assign [.Attribute a f p2] e pos) (LS X W (wS Γ (.stf x c f z))) := by
  obtain ⟨C, hm, cl, na⟩ := cr
  have base := ps_fld (pos := pos) (pos' := p2) (f := f) ho hv hs
  refine ⟨fun pins s σ H D I ⟨ρ, σz, h, Dd, sr, k, w⟩ => base.run pins s σ H D I ?_⟩
  unfold wS at w
  refine ⟨ρ, σz, h, _, _, sr, fun vz h1 ρ1 H1 v n1 r1 p1 w1 => ?_, k.kx sr, w⟩
  have s1' := sr.nx n1 r1
  refine ⟨ρ1, σz, h1, _, _, s1', fun oz h2 ρ2 H2 o n2 r2 p2 w2 => ?_, (k.go n1).kx s1', w1⟩
  have s2' := s1'.nx n2 r2
  cases oz with
  | ref r =>
    obtain ⟨c', fs, er, ec, ln, w2⟩ := getO_some (show getO h2 r fun c' fs => c' = c ∧ fs.length < 1000 ∧ Dd.nx σz (h2.set r (.ins c (putZ f vz fs))) from w2)
    rw [ec] at er
    obtain ⟨b, e1, rfl⟩ := p2
    obtain ⟨dx, gs, kk, q⟩ := ins_of r2 hm er e1
    refine ⟨b, C, dx, gs, rfl, kk, cl, na f hf, by rw [repF_len q]; exact ln, ?_⟩
    have p1' := p1.nx r1 n2
    have n : Nx ρ2 H2 ρ2 (upd H2 b (.ins C dx (putF f v gs))) := ⟨⟨[], by simp⟩, fun b' o q z => by rw [upd_ne (fun y => z (by rw [y]; exact List.mem_of_getElem? e1) : b' ≠ b)]; exact q, fun b q z => absurd q z⟩
    obtain ⟨r3, n3⟩ := r2.write (i := r) (a := b) e1 (u := .ins C dx (putF f v gs)) (o := .ins c (putZ f vz fs)) ⟨C, dx, _, hm, upd_same, RepF.stay (r2.stay n) _ _ (repF_put p1' q)⟩
    exact k.nx ρ2 σz _ σ _ ((n1.trans n2).trans n3) (s2'.nx n3 r3) w2
  | _ => exact False.elim w2
theorem zs_aug {i : Nat} {nm : Str} {o : Operator} (ho : o = .Add ∨ o = .Sub) (hN : X.N.Nodup) (hi : X.N[i]? = some nm) (hx : Loc X.env.scope nm) (hf : X.fn nm = true ∨ X.env.scope.names.lookup nm = some .local) (ha : PE X a (LE X W (wE Γ x))) :
    PS X (.AugAssign (.Name nm p) o a pos) (LS X W (wS Γ (.aug i o x))) := by
  have core : ∀ (D : Ends) (σ : L2.St) (H : Hp), LS X W (wS Γ (.aug i o x)) D σ H → ∃ v, σ[i]? = some (some v) ∧ LE X W (wE Γ x) σ H fun u H1 => (o = .Add ∧ ∃ m n, v = .int m ∧ u = .int n ∧ D.nx (σ.set i (some (.int (m + n)))) H1) ∨ (o = .Sub ∧ ∃ m n, v = .int m ∧ u = .int n ∧ D.nx (σ.set i (some (.int (m - n)))) H1) := by
    intro D σ H ⟨ρ, σz, h, Dd, s, k, w⟩
    unfold wS at w
    split at w
    · rename_i z e
      obtain ⟨v, ev, pv⟩ := s.sl i z e
      refine ⟨v, ev, ρ, σz, h, _, _, s, fun y h1 ρ1 H1 u n1 r1 p1 w1 => ?_, k.kx s, w⟩
      have pv1 := pv.nx s.hr n1
      split at w1
      · rename_i m n
        obtain rfl := pv1
        obtain rfl := p1
        rcases w1 with ⟨eo, w1⟩ | ⟨eo, w1⟩
        · exact .inl ⟨eo, m, n, rfl, rfl, k.nx ρ1 _ h1 _ H1 n1 ((s.nx n1 r1).set i (x := .int (m + n)) rfl) w1⟩
        · exact .inr ⟨eo, m, n, rfl, rfl, k.nx ρ1 _ h1 _ H1 n1 ((s.nx n1 r1).set i (x := .int (m - n)) rfl) w1⟩
      · exact w1.elim
    · exact w.elim
  rcases ho with rfl | rfl
  · refine ps_imp (ps_aug hN hi hx ha ip_add hf) fun D σ H q => ?_
    obtain ⟨v, ev, q⟩ := core D σ H q
    refine ⟨v, ev, ?_⟩
    obtain ⟨ρ, σz, h, F, E, s, kq, kx, w⟩ := q
    refine ⟨ρ, σz, h, F, E, s, fun r h' ρ' H' u n hr rp w' => ?_, kx, w⟩
    rcases kq r h' ρ' H' u n hr rp w' with ⟨_, m, n, e1, e2, q⟩ | ⟨z, _⟩
    · exact ⟨m, n, e1, e2, q⟩
    · cases z
  · refine ps_imp (ps_aug hN hi hx ha ip_sub hf) fun D σ H q => ?_
    obtain ⟨v, ev, q⟩ := core D σ H q
    refine ⟨v, ev, ?_⟩
    obtain ⟨ρ, σz, h, F, E, s, kq, kx, w⟩ := q
    refine ⟨ρ, σz, h, F, E, s, fun r h' ρ' H' u n hr rp w' => ?_, kx, w⟩
    rcases kq r h' ρ' H' u n hr rp w' with ⟨z, _⟩ | ⟨_, m, n, e1, e2, q⟩
    · cases z
    · exact ⟨m, n, e1, e2, q⟩

/-! ### loops -/
theorem zs_whl {sb : List Stmt} {cb : List Sm} (po : PassesOwn (model X.prog X.w) X.A X.env X.xe) (hc : PT X c (LT X W (wT Γ x))) (hb : PSs X sb (LS X W (wSs Γ cb))) : PS X (.While c sb [] pos) (LS X W (wS Γ (.whl x cb))) := ps_imp (ps_while po hc hb) fun D σ H ⟨ρ, σz, h, Dd, s, k, w⟩ => by
  unfold wS at w
  obtain ⟨Wz, ⟨m0, w0⟩, turn⟩ := w
  refine ⟨fun m σ' H' => ∃ (ρ' : List Addr) (σz' : Env) (h' : Hep), Nx ρ H ρ' H' ∧ SR X ρ' σz' h' σ' H' ∧ Wz m σz' h', ⟨m0, ρ, σz, h, .refl, s, w0⟩, fun m σ1 H1 ⟨ρ1, σz1, h1, n1, s1, w1⟩ => ?_⟩
  refine ⟨ρ1, σz1, h1, _, _, s1, fun t h2 ρ2 H2 n2 r2 w2 => ?_, (k.go n1).kx s1, turn m σz1 h1 w1⟩
  cases t with
  | true =>
    rw [if_pos rfl] at w2
    refine iteT ⟨fun σ' H' => ∃ m', m' < m ∧ ∃ (ρ' : List Addr) (σz' : Env) (h' : Hep), Nx ρ H ρ' H' ∧ SR X ρ' σz' h' σ' H' ∧ Wz m' σz' h', fun σ' H' z => z, ρ2, σz1, h2, { Dd with nx := fun σ2 h2 => ∃ m', m' < m ∧ Wz m' σ2 h2, ct := fun σ2 h2 => ∃ m', m' < m ∧ Wz m' σ2 h2, bk := Dd.nx }, s1.nx n2 r2, ⟨fun ρ3 σz3 h3 σ3 H3 n3 s3 ⟨m', hm, w3⟩ => ?_, (k.go (n1.trans n2)).nx, fun ρ3 σz3 h3 σ3 H3 n3 s3 ⟨m', hm, w3⟩ => ?_, (k.go (n1.trans n2)).rt, (k.go (n1.trans n2)).ex⟩, w2⟩
    · exact ⟨m', hm, ρ3, σz3, h3, (n1.trans n2).trans n3, s3, w3⟩
    · exact ⟨m', hm, ρ3, σz3, h3, (n1.trans n2).trans n3, s3, w3⟩
  | false =>
    rw [if_neg Bool.false_ne_true] at w2
    exact iteF (k.nx ρ2 σz1 h2 σ1 H2 (n1.trans n2) (s1.nx n2 r2) w2)
theorem zs_for {t : Tg} {it : Ex} {tg iter : Expr} {sb : List Stmt} {cb : List Sm} (po : PassesOwn (model X.prog X.w) X.A X.env X.xe) (hc : X.calm = true) (hi : PI X tg iter (LI X W (wI Γ it))) (hg : PG X tg (LG X t)) (hb : PSs X sb (LS X W (wSs Γ cb)))
    (hs : ∀ x, foldedSetIterable iter X.env x = pure x) : PS X (.For tg iter sb [] pos) (LS X W (wS Γ (.for_ t it cb))) := ps_imp (ps_for po hc hi hg hb hs) fun D σ H ⟨ρ, σz, h, Dd, s, k, w⟩ => by
  unfold wS at w
  refine ⟨ρ, σz, h, _, _, s, fun items g h1 ρ1 H1 J n1 r1 ok w1 => ?_, k.kx s, w⟩
  refine ⟨fun i m σ' H' => i + m = items.length ∧ ∃ (ρ' : List Addr) (σz' : Env) (h' : Hep), Nx ρ1 H1 ρ' H' ∧ SR X ρ' σz' h' σ' H' ∧ wFor g t (fun σ' h' D' => wSs Γ cb σ' h' D') (items.drop i) σz' h' Dd, ⟨items.length, by omega, ρ1, σz, h1, .refl, s.nx n1 r1, by rw [List.drop_zero]; exact w1⟩, ?_⟩
  rintro i m σ2 H2 ⟨hi, ρ2, σz2, h2, n2, s2, w2⟩
  have n02 := n1.trans n2
  by_cases hlt : i < items.length
  · refine .inr ?_
    rw [List.drop_eq_getElem_cons hlt] at w2
    unfold wFor at w2
    obtain ⟨gk, w2⟩ := w2
    obtain ⟨go, yl⟩ := (ok ρ2 h2 H2 n2 s2.hr gk i).2 items[i] (List.getElem?_eq_getElem hlt)
    refine ⟨go, fun σ' H' => ∃ (ρ' : List Addr) (σz' : Env) (h' : Hep), Nx ρ1 H1 ρ' H' ∧ SR X ρ' σz' h' σ' H' ∧ wFor g t (fun σ' h' D' => wSs Γ cb σ' h' D') (items.drop (i + 1)) σz' h' Dd, fun σ' H' z => ⟨m - 1, by omega, by omega, z⟩, fun v H3 y => ?_⟩
    obtain ⟨n3, r3, pv⟩ := yl v H3 y
    split at w2
    · rename_i σz' et
      refine ⟨ρ2, σz2, h2, items[i], s2.nx n3 r3, pv, σz', et, fun σ' s' _ => ?_⟩
      have n03 := n02.trans n3
      refine ⟨ρ2, σz', h2, { Dd with nx := fun σ2 h2 => wFor g t (fun σ' h' D' => wSs Γ cb σ' h' D') (items.drop (i + 1)) σ2 h2 Dd, ct := fun σ2 h2 => wFor g t (fun σ' h' D' => wSs Γ cb σ' h' D') (items.drop (i + 1)) σ2 h2 Dd, bk := Dd.nx }, s', ⟨fun ρ4 σz4 h4 σ4 H4 n4 s4 w4 => ?_, (k.go n03).nx, fun ρ4 σz4 h4 σ4 H4 n4 s4 w4 => ?_, (k.go n03).rt, (k.go n03).ex⟩, w2⟩
      · exact ⟨ρ4, σz4, h4, (n2.trans n3).trans n4, s4, w4⟩
      · exact ⟨ρ4, σz4, h4, (n2.trans n3).trans n4, s4, w4⟩
    · exact w2.elim
  · have hi' : i = items.length := by omega
    subst hi'
    rw [List.drop_length] at w2
    unfold wFor at w2
    obtain ⟨gk, w2⟩ := w2
    exact .inl ⟨(ok ρ2 h2 H2 n2 s2.hr gk _).1 rfl, k.nx ρ2 σz2 h2 σ2 H2 n02 s2 w2⟩
/-! ### exceptions -/
theorem zs_rai {c m : Str} {j : Nat} {p2 p3 : Pos} (er : ErReady X c) (hc : X.calm = true) (tk : Takes X W) (hg : Gl X c) (hd : (c == ("__debug__" : Str)) = false) : PS X (.Raise (some (.Call (.Name c p) [.Constant (.str m) j p2] [] p3)) none pos) (LS X W (wS Γ (.rai c))) := by
  obtain ⟨C, hm, hn, hx, hk, h1, h2⟩ := er
  refine ps_imp (ps_raise hc tk (pmk_own PySem.F.excBase_ValueError hx hm hk (raises_own h1 h2) hg hd)) fun D σ H ⟨ρ, σz, h, Dd, s, k, w⟩ => ?_
  unfold wS at w
  show W (.ref C) none σ H
  exact k.ex ⟨c, []⟩ ρ σz h σ H _ _ .refl s ⟨C, hn, rfl, .inl ⟨rfl, rfl⟩⟩ w
theorem zs_raf {c f : Str} {p3 : Pos} (er : EiReady X c f) (hc : X.calm = true) (tk : Takes X W) (hg : Gl X c) (hd : (c == ("__debug__" : Str)) = false) (ha : PE X a (LE X W (wE Γ x))) (hs : ∀ r, starEach (a :: r) X.env = (false, eval a X.env) :: starEach r X.env) :
    PS X (.Raise (some (.Call (.Name c p) [a] [] p3)) none pos) (LS X W (wS Γ (.raf c f x))) := by
  obtain ⟨C, fI, fd, ps, kk, hm, hn, T, hno, iC, tI, F, hr, hb⟩ := er
  have nox : Passes (L2.CX X.prog X.w) X (fun _ _ _ => False) := fun pins σ H s e s' I c => by
    obtain ⟨_, _, _, _, _, _, _, _, _, _, _, _, z⟩ := c
    exact z.elim
  refine ps_imp (ps_raise hc tk (pmk_oex T iC tI F hr hb .nil nox hg hm (pa_cons ha pa_nil (hs _)) hd (hs _) rfl)) fun D σ H ⟨ρ, σz, h, Dd, s, k, w⟩ => ?_
  unfold wS at w
  refine ⟨ρ, σz, h, _, _, s, fun v h1 ρ1 H1 u n1 r1 p1 w1 => ?_, k.kx s, w⟩
  refine ⟨(by show 1 ≤ 1000; decide), fun a na => ⟨a, C, u, rfl, T, hno, upd_same, fun dx nd ne => ⟨rfl, dx, [(f, u)], upd_same, ?_, ?_, ?_⟩⟩⟩
  · rw [upd_ne ne]
    exact upd_same
  · rw [upd_ne ne] at nd
    exact nd
  · rw [upd_ne ne] at nd
    have e : upd (del (upd (upd (upd H1 a (exo a C none)) dx (exd dx [(f, u)])) a (exo a C (some dx))) a) dx (.xd [(f, u)]) = upd H1 dx (.xd [(f, u)]) := by
      funext b
      by_cases h1 : b = dx
      · rw [h1, upd_same, upd_same]
      · rw [upd_ne h1, upd_ne h1]
        by_cases h2 : b = a
        · rw [h2, del_same, na]
        · rw [del_ne h2, upd_ne h2, upd_ne h1, upd_ne h2]
    rw [e]
    obtain ⟨r2, n2⟩ := r1.tupl nd (.xd [(f, u)])
    exact k.ex ⟨c, [(f, v)]⟩ ρ1 σz h1 σ _ _ _ (n1.trans n2) (s.nx (n1.trans n2) r2) ⟨C, hn, rfl, .inr ⟨dx, [(f, u)], rfl, upd_same, r1.fresh nd, ⟨u, [], rfl, p1.nx r1 n2, rfl⟩⟩⟩ w1
theorem repF_zip {K : PySem.W.Frag} {ρ : List Addr} {H : Hp} : ∀ {fs : List (Str × PV)} {gs : List (Str × V)}, RepF K ρ H fs gs → (fs.map (·.1)).zip (gs.map (·.2)) = gs ∧ Reps K ρ H (fs.map (·.2)) (gs.map (·.2)) ∧ fs.length = gs.length
  | [], _, q => by cases q; exact ⟨rfl, rfl, rfl⟩
  | (f, x) :: fs, _, ⟨v, r, e, p, q⟩ => by
    subst e
    obtain ⟨q1, q2, q3⟩ := repF_zip q
    exact ⟨by rw [List.map_cons, List.map_cons, List.zip_cons_cons, q1], ⟨v, _, rfl, p, q2⟩, by rw [List.length_cons, List.length_cons, q3]⟩
theorem kept_rep {ρ : List Addr} {h : Hep} {H : Hp} {x : XV} {cls : Value} {d : Option Addr} {a : Addr} (r : HR X.K X.mg ρ h H) (q : XR X.K X.mg ρ H x cls d) (na : H a = none) : Rep X.K ρ (upd H a (Zh.KeptX cls d a)) (keptV x) (.ref a) := by
  obtain ⟨C, hn, rfl, z⟩ := q
  have st := (r.tupl na (Zh.KeptX (.ref C) d a)).2
  rcases z with ⟨e1, e2⟩ | ⟨dd, gs, e1, e2, e3, e4⟩
  · refine ⟨a, C, d, [], rfl, hn, upd_same, ?_, ?_, .inl ⟨?_, e2⟩⟩
    · rw [e1]; exact rfl
    · rw [e1]; rfl
    · rw [e1]; rfl
  · obtain ⟨q1, q2, q3⟩ := repF_zip e4
    refine ⟨a, C, d, gs.map (·.2), rfl, hn, upd_same, Reps.stay (r.stay st) _ _ q2, by rw [List.length_map, List.length_map, q3], .inr ⟨dd, e1, ?_⟩⟩
    rw [q1, upd_ne (ne_of_none e2 na)]
    exact e2
theorem zs_tryk {c n m : Str} {i j : Nat} {b : List Sm} {cs rs ts : List Str} {body : List Stmt} {np p1 p2 p3 pos' : Pos} (xr : XsReady X rs ts) (hcs : ∀ a ∈ cs, a ∈ rs) (hct : c ∈ ts) (hs : X.stack = X.env :: X.outer) (hf : X.env.frame = some X.env.locals) (hex : X.ex = []) (hN : X.N.Nodup) (hi : X.N[i]? = some n) (hj : X.N[j]? = some m) (ij : i ≠ j)
    (hln : X.env.kindOf n = some .local) (hlm : X.env.kindOf m = some .local) (hg : Gl X c) (hd : (c == ("__debug__" : Str)) = false) (hdn : (n == ("__debug__" : Str)) = false) (hcn : (n == ("__classdict__" : Str)) = false) (tk : Takes X W) (hrs : rs ≠ [])
    (hb : ∀ (W' : WX) (pn : List (Addr × Obj)) (xe : Value → Shared → Prop), Takes (X.tr pn xe) W' → PassesOwn (model X.prog X.w) X.A X.env xe → PSs (X.tr pn xe) body (LS X W' (wSs Γ b))) :
    PS X (.Try body [.ExceptHandler (some (.Name c np)) (some n) [.Assign [.Name m p1] (.Name n p2) p3] pos'] [] [] pos) (LS X W (wS Γ (.tryk b cs c i j))) := by
  obtain ⟨cv, hcv⟩ : ∃ cv, XnIs X c cv := by
    cases rs with
    | nil => exact absurd rfl hrs
    | cons a rs =>
      obtain ⟨C, _, _, q⟩ := xr a List.mem_cons_self
      obtain ⟨cv, q, _⟩ := q c hct
      exact ⟨cv, q⟩
  have uniq : ∀ cv', XnIs X c cv' → cv' = cv := fun cv' q => by
    rcases q with q | ⟨q1, q2, _⟩ <;> rcases hcv with z | ⟨z1, z2, _⟩
    · rw [q] at z; exact Option.some.inj z
    · rw [q] at z1; cases z1
    · rw [z] at q1; cases q1
    · rw [q2] at z2; exact Option.some.inj z2
  refine ps_imp (Zh.ps_try_keep hs hf hex hN hi hj hln hlm ⟨hg, hd, hcv⟩ tk hdn hcn (tb := fun W' => LS X W' (wSs Γ b)) hb) fun D σ H ⟨ρ, σz, h, Dd, s, k, w⟩ => ?_
  unfold wS at w
  refine ⟨ρ, σz, h, { Dd with ex := fun x σ' h' => x.cls ∈ cs ∧ if subX x.cls c = true then Dd.nx ((σ'.set j (some (keptV x))).set i none) h' else Dd.ex x σ' h' }, s, ⟨k.nx, k.bk, k.ct, k.rt, fun x ρ1 σz1 h1 σ1 H1 cls d n1 s1 q w1 => ?_⟩, w⟩
  obtain ⟨hx, w1⟩ := w1
  have q' := q
  obtain ⟨C, hn, ec, _⟩ := q'
  obtain ⟨C', hn', _, facts⟩ := xr x.cls (hcs _ hx)
  rw [hn] at hn'
  cases hn'
  obtain ⟨cv', e1, e2, _⟩ := facts c hct
  rw [uniq cv' e1] at e2
  subst ec
  refine ⟨subX x.cls c, e2, fun yes a na => ?_, fun no => ?_⟩
  · rw [if_pos yes] at w1
    have kr := kept_rep s1.hr q na
    obtain ⟨r2, n2⟩ := s1.hr.tupl na (Zh.KeptX (.ref C) d a)
    have s2 := ((s1.nx n2 r2).set j kr).wipe [i]
    have e : ((σ1.set i (some (V.ref a))).set j (some (V.ref a))).set i none = (σ1.set j (some (V.ref a))).set i none := by
      rw [List.set_comm _ _ ij, List.set_set]
    rw [e]
    exact k.nx ρ1 _ h1 _ _ (n1.trans n2) s2 w1
  · rw [if_neg (by rw [no]; exact Bool.false_ne_true)] at w1
    exact k.ex x ρ1 σz1 h1 σ1 H1 _ d n1 s1 q w1

/-- a statement while a dict is locked -/
theorem zs_lcs {st : Stmt} {s : Sm} {i : Nat} (hs : PS X st (LS X (fun _ _ _ _ => False) (wS Γ s))) : PS X st (LS X W (wS Γ (.lcs i s))) := by
  refine ps_imp (ps_lock hs) fun D σ H ⟨ρ, σz, h, Dd, sr, k, w⟩ => ?_
  unfold wS at w
  split at w
  · rename_i r es
    obtain ⟨kvs, er, w⟩ := getD_some w
    obtain ⟨a, u, e1, hd, mu, all⟩ := sr.hr.lock er
    refine ⟨a, u, hd, mu, fun od => ?_⟩
    obtain ⟨⟨r1, n1⟩, back⟩ := all od
    have open' : ∀ {ρ1 : List Addr} {σz1 : Env} {h1 : Hep} {σ1 : L2.St} {H1 : Hp}, Nx ρ (upd H a (.frz od u)) ρ1 H1 → SR X ρ1 σz1 h1 σ1 H1 → h1[r]? = some (.ldc (.frz od u) kvs) → H1 a = some (.frz od u) ∧ Nx ρ H ρ1 (upd H1 a u) ∧ SR X ρ1 σz1 (h1.set r (.dic kvs)) σ1 (upd H1 a u) := fun n2 s1 g => by
      obtain ⟨hd1, r3, n3⟩ := back n2 s1.hr g
      exact ⟨hd1, n1.trans (n2.trans n3), s1.nx n3 r3⟩
    refine ⟨ρ, σz, _, _, sr.nx n1 r1, ⟨fun ρ' σz' h' σ' H' n s w' => ?_, fun ρ' σz' h' σ' H' n s w' => ?_, fun ρ' σz' h' σ' H' n s w' => ?_, fun y h' ρ' H' v n hr rp w' => ?_, fun x ρ1 σz1 h1 σ1 H1 cls d n s xr z => False.elim z⟩, w (.frz od u)⟩
    · obtain ⟨hd1, n2, s2⟩ := open' n s w'.1
      exact ⟨hd1, k.nx _ _ _ _ _ n2 s2 w'.2⟩
    · obtain ⟨hd1, n2, s2⟩ := open' n s w'.1
      exact ⟨hd1, k.bk _ _ _ _ _ n2 s2 w'.2⟩
    · obtain ⟨hd1, n2, s2⟩ := open' n s w'.1
      exact ⟨hd1, k.ct _ _ _ _ _ n2 s2 w'.2⟩
    · obtain ⟨hd1, r3, n3⟩ := back n hr w'.1
      exact ⟨hd1, k.rt y _ ρ' _ v (n1.trans (n.trans n3)) r3 (rp.nx hr n3) w'.2⟩
  · exact w.elim
end
end Z

/-! ZsK: the look that a text of Z's is a def's body, and soundness as a whole. -/
namespace Z
open PySem PyProof.Rows L2

/-! ### looks -/
def lkB (sc : Scope) (x : Str) (k : NameKind) : Bool := decide (sc.names.lookup x = some k)
def visB (sc : Scope) (x : Str) : Bool := lkB sc x .local || lkB sc x .cell || lkB sc x .free
def glB (sc : Scope) (x : Str) : Bool := lkB sc x .globalImplicit && !(x == ("__debug__" : Str))
def nStar : Expr → Bool
  | .Starred .. => false
  | _ => true
def nSlice : Expr → Bool
  | .Slice .. => false
  | _ => true
def nSet : Expr → Bool
  | .Set .. => false
  | _ => true
def nComp : Expr → Bool
  | .ListComp .. => false
  | .SetComp .. => false
  | .DictComp .. => false
  | _ => true
def attrOk : Expr → Bool
  | .Call (.Name _ _) [] [] _ => false
  | _ => true
theorem star_of {e : Expr} (h : nStar e = true) (r : List Expr) (env : PySem.Env) : starEach (e :: r) env = (false, eval e env) :: starEach r env := by
  cases e <;> first | rfl | cases h
theorem plain_ix {e : Expr} (h : nSlice e = true) : PlainIx e := by
  intro o i
  cases e <;> first | rfl | cases h
theorem marks_of {o : CmpOp} {e : Expr} (h : nSet e = true) : behindInMarks o e = false := by
  cases e <;> first | rfl | cases h
theorem marks3_of {o o' o'' : CmpOp} {a b e : Expr} (h : nSet e = true) : lastMarks [o, o', o''] [a, b, e] = false := marks_of h
theorem marks2_of {o o' : CmpOp} {a e : Expr} (h : nSet e = true) : lastMarks [o, o'] [a, e] = false := marks_of h
theorem folded_of {e : Expr} (h : nSet e = true) (env : PySem.Env) (x : Value) : foldedSetIterable e env x = pure x := by
  cases e <;> first | rfl | cases h
theorem swap_no {e : Expr} (h : nComp e = true) (t : Option Expr) (l : Nat) (env : PySem.Env) : swapsWith e t l env = pure false := by
  cases e <;> first | rfl | cases h
theorem attr_of {e : Expr} (h : attrOk e = true) (n : Str) (env : PySem.Env) (w : Sem Value) : attributeBase e n env w = w := by
  cases e with
  | Call f as ks p =>
    cases f <;> cases as <;> cases ks <;> first | rfl | cases h
  | _ => rfl

mutual
def PV.same : PV → PV → Bool
  | .non, .non => true
  | .bl a, .bl b => a == b
  | .int a, .int b => a == b
  | .str a, .str b => a == b
  | .itp a, .itp b => PV.sames a b
  | _, _ => false
def PV.sames : List PV → List PV → Bool
  | [], [] => true
  | x :: xs, y :: ys => PV.same x y && PV.sames xs ys
  | _, _ => false
end
mutual
theorem PV.same_eq : ∀ {x y : PV}, x.same y = true → x = y
  | .non, .non, _ => rfl
  | .bl a, .bl b, h => congrArg PV.bl (by simpa [PV.same] using h)
  | .int a, .int b, h => congrArg PV.int (by simpa [PV.same] using h)
  | .str a, .str b, h => congrArg PV.str (by simpa [PV.same] using h)
  | .itp a, .itp b, h => congrArg PV.itp (PV.sames_eq h)
theorem PV.sames_eq : ∀ {x y : List PV}, PV.sames x y = true → x = y
  | [], [], _ => rfl
  | x :: xs, y :: ys, h => by
    have h : (PV.same x y && PV.sames xs ys) = true := h
    rw [Bool.and_eq_true] at h
    rw [PV.same_eq h.1, PV.sames_eq h.2]
end

def miName : MI → String
  | .append => "append" | .pop => "pop" | .popAt => "pop" | .index => "index" | .remove => "remove" | .extend => "extend" | .clear => "clear"
def smName : SM → String
  | .join => "join" | .index => "index"
def mtK : List Str → List (Option Expr) → Bool
  | [], [] => true
  | k :: ks, some (.Constant (.str x) _ _) :: r => x == k && mtK ks r
  | _, _ => false
def miAr : MI → Nat
  | .append => 1 | .pop => 0 | .popAt => 1 | .index => 1 | .remove => 1 | .extend => 1 | .clear => 0
/-- the shape of a built-in's call: the names it leans on, its arguments -/
def biForm (b : BI) (x : Str) (as : List Expr) : Option (List Str × List Expr) := match b with
  | .tuple => if x == ("tuple" : Str) && decide (as.length = 1) then some ([x], as) else none
  | .xtuple => if x == ("tuple" : Str) && decide (as.length = 1) then some ([x], as) else none
  | .lenkeys => (match as with
    | [.Call (.Name y _) bs [] _] => if x == ("len" : Str) && y == ("set" : Str) && decide (bs.length = 1) then some ([x, y], bs) else none
    | _ => none)
  | .lenset => (match as with
    | [.Call (.Name y _) bs [] _] => if x == ("len" : Str) && y == ("set" : Str) && decide (bs.length = 1) then some ([x, y], bs) else none
    | _ => none)
  | .sortedset => (match as with
    | [.Call (.Name y _) bs [] _] => if x == ("sorted" : Str) && y == ("set" : Str) && decide (bs.length = 1) then some ([x, y], bs) else none
    | _ => none)
  | .listrange => (match as with
    | [.Call (.Name y _) bs [] _] => if x == ("list" : Str) && y == ("range" : Str) && (decide (bs.length = 1) || decide (bs.length = 2)) then some ([x, y], bs) else none
    | _ => none)
  | b => (match biName b with
    | some (n, _) => if x == Str.ofString n && !as.isEmpty then some ([x], as) else none
    | none => none)
def ownP (N : List Str) (own : List Nat) : List (Str × Nat) := own.filterMap fun i => (N[i]?).map fun x => (x, i)
/-- where a comprehension may store -/
def tkB (scope sc : Scope) (x : Str) : Bool := lkB (L2.relS scope sc) x .local || (lkB (L2.relS scope sc) x .cell && decide (scope.names.lookup x = some .cell))
def tkD (sc : Scope) (x : Str) : Bool := lkB sc x .local || lkB sc x .cell

mutual
def mtT (N : List Str) (tk : Str → Bool) : Tg → Expr → Bool
  | .nm i, .Name x _ => decide (N[i]? = some x) && tk x
  | .tp ts, .Tuple es _ _ => mtTs N tk ts es
  | _, _ => false
def mtTs (N : List Str) (tk : Str → Bool) : List Tg → List Expr → Bool
  | [], [] => true
  | t :: ts, e :: es => mtT N tk t e && mtTs N tk ts es
  | _, _ => false
end
mutual
def mtE (nm : List Cn) (cs : List (Str × PV)) (N : List Str) : Scope → Ex → Expr → Bool
  | sc, .var i, .Name x _ => decide (N[i]? = some x) && visB sc x && !(x == ("__debug__" : Str)) && !(x == ("__classdict__" : Str))
  | _, .non, .Constant .none _ _ => true
  | _, .bl b, .Constant (.bool c) _ _ => b == c
  | _, .int i, .Constant (.int j) _ _ => i == j
  | _, .str s, .Constant (.str t) _ _ => s == t
  | sc, .con x v, .Name y _ => x == y && glB sc y && cs.any fun p => p.1 == y && p.2.same v
  | sc, .bin o a b, .BinOp l p r _ => decide (o = p) && mtE nm cs N sc a l && mtE nm cs N sc b r
  | sc, .neg a, .UnaryOp .USub l _ => mtE nm cs N sc a l
  | sc, .not a, .UnaryOp .Not l _ => mtE nm cs N sc a l
  | sc, .and a b, .BoolOp .And (x :: y :: r) pos => mtE nm cs N sc a x && (match r with | [] => mtE nm cs N sc b y | z :: r => mtE nm cs N sc b (.BoolOp .And (y :: z :: r) pos))
  | sc, .or a b, .BoolOp .Or (x :: y :: r) pos => mtE nm cs N sc a x && (match r with | [] => mtE nm cs N sc b y | z :: r => mtE nm cs N sc b (.BoolOp .Or (y :: z :: r) pos))
  | sc, .ife c a b, .IfExp t l r _ => mtE nm cs N sc c t && mtE nm cs N sc a l && mtE nm cs N sc b r
  | sc, .cmp o a b, .Compare l [p] [r] _ => decide (o = p) && nSet r && mtE nm cs N sc a l && mtE nm cs N sc b r
  | sc, .chn o o' a b c, .Compare l [p, p'] [r, t] _ => decide (o = p) && decide (o' = p') && nSet t && mtE nm cs N sc a l && mtE nm cs N sc b r && mtE nm cs N sc c t
  | sc, .chn3 o o' o'' a b c d, .Compare l [p, p', p''] [r, t, u] _ => decide (o = p) && decide (o' = p') && decide (o'' = p'') && nSet u && mtE nm cs N sc a l && mtE nm cs N sc b r && mtE nm cs N sc c t && mtE nm cs N sc d u
  | sc, .tup es, .Tuple as _ _ => mtEs nm cs N sc es as
  | sc, .xtp es, .Tuple as _ _ => mtEs nm cs N sc es as
  | sc, .dg1 a k, .Call (.Attribute o n apos) [b] [] pos => n == ("get" : Str) && attrOk o && apos.endLine == pos.line && nStar b && mtE nm cs N sc a o && mtE nm cs N sc k b
  | sc, .dg2 a k d, .Call (.Attribute o n apos) [b, c] [] pos => n == ("get" : Str) && attrOk o && apos.endLine == pos.line && nStar b && nStar c && mtE nm cs N sc a o && mtE nm cs N sc k b && mtE nm cs N sc d c
  | sc, .sm m a k, .Call (.Attribute o n apos) [b] [] pos => n == Str.ofString (smName m) && attrOk o && apos.endLine == pos.line && nStar b && mtE nm cs N sc a o && mtE nm cs N sc k b
  | sc, .dcd ks es, .Dict keys as _ => mtK ks keys && decide (1 ≤ ks.length ∧ ks.length ≤ 15 ∧ ks.length = es.length) && mtEs nm cs N sc es as
  | sc, .lst es, .List as _ => mtEs nm cs N sc es as
  | _, .dct, .Dict [] [] _ => true
  | sc, .idx a i, .Subscript l j _ => nSlice j && mtE nm cs N sc a l && mtE nm cs N sc i j
  | sc, .slc a lo hi, .Subscript l (.Slice p q none _) _ => mtE nm cs N sc a l && mtO nm cs N sc lo p && mtO nm cs N sc hi q
  | sc, .call f es, .Call (.Name x _) as [] _ => decide (nm[f]? = some (.fn x)) && glB sc x && mtEs nm cs N sc es as
  | sc, .fld a c f, .Attribute (.Name x p) g _ => g == f && nm.any (fun q => match q with | .cl c' fs => c' == c && fs.contains f | _ => false) && mtE nm cs N sc a (.Name x p)
  | sc, .fldx a c f, .Attribute o g _ => g == f && nm.any (fun q => decide (q = .xf c f)) && attrOk o && mtE nm cs N sc a o
  | sc, .mth i c m a es, .Call (.Attribute (.Name x p) g apos) as [] pos => g == m && decide (as.length < 30) && apos.endLine == pos.line && decide (nm[i]? = some (.me c m)) && mtE nm cs N sc a (.Name x p) && mtEs nm cs N sc es as
  | sc, .new i c es, .Call (.Name x _) as [] _ => x == c && decide (nm[i]? = some (.mk c)) && glB sc x && mtEs nm cs N sc es as
  | sc, .bi b es, .Call (.Name x _) as [] _ => (match biForm b x as with | some (gs, bs) => gs.all (glB sc) && mtEs nm cs N sc es bs | none => false)
  | sc, .mi m o es, .Call (.Attribute a n apos) as [] pos => n == Str.ofString (miName m) && decide (as.length = miAr m) && attrOk a && apos.endLine == pos.line && mtE nm cs N sc o a && mtEs nm cs N sc es as
  | sc, .isi x t, .Call (.Name f _) [a, .Name ty _] [] _ => f == ("isinstance" : Str) && ty == Str.ofString (itName t) && glB sc f && glB sc ty && nStar a && mtE nm cs N sc x a
  | sc, .mdf mx x, .Call (.Name f _) [a] [⟨some k, .Constant .none _ _, _⟩] _ => f == Str.ofString (Zh.mmName mx) && k == ("default" : Str) && glB sc f && nStar a && mtE nm cs N sc x a
  | sc, .lck i x, .ListComp el gs scope pos => mtE nm cs N sc x (.ListComp el gs scope pos)
  | sc, .lka x, .ListComp el gs scope pos => mtE nm cs N sc x (.ListComp el gs scope pos)
  | sc, .rep x, .Call (.Name f _) [a] [] _ => f == ("repr" : Str) && glB sc f && nm.any (fun q => decide (q = .gd)) && nStar a && mtE nm cs N sc x a
  | sc, .rev x, .Subscript a (.Slice none none (some (.UnaryOp .USub (.Constant (.int i) _ _) _)) _) _ => i == 1 && mtE nm cs N sc x a
  | sc, .comp own t it c e, .ListComp el [⟨tg, ir, ifs, 0⟩] scope _ => L2.blkC N sc scope (ownP N own) && decide ((ownP N own).map (·.2) = own) && (slotsT t).all (fun i => own.contains i) && mtT N (tkB scope sc) t tg && mtI nm cs N sc it tg ir &&
      mtC nm cs N (L2.relS scope sc) c ifs && mtE nm cs N (L2.relS scope sc) e el && nSet ir
  | _, _, _ => false
termination_by structural _ e => e
def mtEs (nm : List Cn) (cs : List (Str × PV)) (N : List Str) : Scope → List Ex → List Expr → Bool
  | _, [], [] => true
  | sc, e :: es, a :: as => nStar a && mtE nm cs N sc e a && mtEs nm cs N sc es as
  | _, _, _ => false
termination_by structural _ e => e
def mtO (nm : List Cn) (cs : List (Str × PV)) (N : List Str) : Scope → Option Ex → Option Expr → Bool
  | _, none, none => true
  | sc, some e, some a => mtE nm cs N sc e a
  | _, _, _ => false
termination_by structural _ e => e
def mtC (nm : List Cn) (cs : List (Str × PV)) (N : List Str) : Scope → Option Ex → List Expr → Bool
  | _, none, [] => true
  | sc, some e, [a] => mtE nm cs N sc e a
  | _, _, _ => false
termination_by structural _ e => e
def mtI (nm : List Cn) (cs : List (Str × PV)) (N : List Str) : Scope → Ex → Expr → Expr → Bool
  | sc, .rng1 e, _, .Call (.Name x _) [a] [] _ => x == ("range" : Str) && glB sc x && nStar a && mtE nm cs N sc e a
  | sc, .rng2 e f, _, .Call (.Name x _) [a, b] [] _ => x == ("range" : Str) && glB sc x && nStar a && nStar b && mtE nm cs N sc e a && mtE nm cs N sc f b
  | sc, .rng3 e f g, _, .Call (.Name x _) [a, b, c] [] _ => x == ("range" : Str) && glB sc x && nStar a && nStar b && nStar c && mtE nm cs N sc e a && mtE nm cs N sc f b && mtE nm cs N sc g c
  | sc, .enum e, .Tuple _ _ _, .Call (.Name x _) [a] [] _ => x == ("enumerate" : Str) && glB sc x && nStar a && mtE nm cs N sc e a
  | sc, .zip e f, .Tuple _ _ _, .Call (.Name x _) [a, b] [] _ => x == ("zip" : Str) && glB sc x && nStar a && nStar b && mtE nm cs N sc e a && mtE nm cs N sc f b
  | sc, .wlk e, _, a => mtE nm cs N sc e a
  | sc, .wlx e, _, a => mtE nm cs N sc e a
  | sc, .wld i, _, .Name x _ => decide (N[i]? = some x) && visB sc x && !(x == ("__debug__" : Str)) && !(x == ("__classdict__" : Str))
  | _, _, _, _ => false
termination_by structural _ e => e
end
end Z

/-! ZsL: soundness of expressions as a whole. -/
namespace Z
open PySem PyProof.Rows L2

/-- the built-in names that no def shadows -/
def blts : List String := ["len", "max", "min", "sum", "all", "any", "list", "tuple", "int", "isinstance", "range", "enumerate", "zip", "set", "bool", "str", "dict", "sorted", "repr"]
def ConReady (X : Cx) (x : Str) (v : PV) : Prop := ∃ (u : Value) (t : V), X.mg x = some u ∧ RelV t u ∧ ∀ (ρ : List Addr) (H : Hp), Rep X.K ρ H v t
structure Good (X : Cx) (W : WX) (nm : List Cn) (cs : List (Str × PV)) (Γ : List Spec) : Prop where
  calm : X.calm = true
  nd : X.N.Nodup
  un : X.A.units + 65 < cLine
  tk : Takes X W
  bl : ∀ n ∈ blts, X.mg n = none
  fn : ∀ (i : Nat) (x : Cn), nm[i]? = some x → ∃ S, Γ[i]? = some S ∧ Rdy X x S
  cn : ∀ p ∈ cs, ConReady X p.1 p.2

section
variable {X : Cx} {W : WX} {nm : List Cn} {cs : List (Str × PV)} {Γ : List Spec}
theorem Good.blk (G : Good X W nm cs Γ) (s : Shared) (H : Hp) (scope : Scope) (cenv : PySem.Env) (fp : List Addr) : Good (X.blk s H scope cenv fp) (fun _ _ _ _ => False) nm cs Γ :=
  ⟨G.calm, G.nd, G.un, takes0, G.bl, G.fn, G.cn⟩
theorem gl_of {x : Str} (h : glB X.env.scope x = true) : Gl X x ∧ (x == ("__debug__" : Str)) = false := by
  unfold glB lkB at h
  rw [Bool.and_eq_true] at h
  have e : X.env.scope.names.lookup x = some .globalImplicit := of_decide_eq_true h.1
  exact ⟨e, by simpa using h.2⟩
theorem vis_of {x : Str} (h : visB X.env.scope x = true) : Vis X.env.scope x := by
  unfold visB lkB at h
  rw [Bool.or_eq_true, Bool.or_eq_true] at h
  rcases h with (h | h) | h
  · exact .inl (of_decide_eq_true h)
  · exact .inr (.inl (of_decide_eq_true h))
  · exact .inr (.inr (of_decide_eq_true h))
/-- what tk tells of names -/
def TkOk (X : Cx) (tk : Str → Bool) : Prop := ∀ x, tk x = true → Loc X.env.scope x ∧ (X.fn x = true ∨ X.env.scope.names.lookup x = some .local)
theorem tkB_ok (s : Shared) (H : Hp) (scope : Scope) (C : Addr) (cl : List (Str × Addr)) (fp : List Addr) : TkOk (X.blk s H scope (compEnvC scope cl C X.env) fp) (tkB scope X.env.scope) := by
  intro x h
  unfold tkB lkB at h
  rw [Bool.or_eq_true, Bool.and_eq_true] at h
  rcases h with h | ⟨h, h2⟩
  · have e : (L2.relS scope X.env.scope).names.lookup x = some .local := of_decide_eq_true h
    exact ⟨.inl e, .inr e⟩
  · have e : (L2.relS scope X.env.scope).names.lookup x = some .cell := of_decide_eq_true h
    refine ⟨.inr e, .inl ?_⟩
    have e2 : scope.names.lookup x = some .cell := of_decide_eq_true h2
    show (scope.names.lookup x == some .cell) = true
    rw [e2]
    rfl
theorem tkD_ok (h : ∀ x, X.fn x = true) : TkOk X (tkD X.env.scope) := by
  intro x e
  unfold tkD lkB at e
  rw [Bool.or_eq_true] at e
  rcases e with e | e
  · exact ⟨.inl (of_decide_eq_true e), .inl (h x)⟩
  · exact ⟨.inr (of_decide_eq_true e), .inl (h x)⟩
theorem assignEach_cons {e : Expr} (h : nStar e = true) (es : List Expr) (env : PySem.Env) : assignEach (e :: es) env = (false, assign e env) :: assignEach es env := by
  cases e <;> first | rfl | cases h
theorem mtT_star {N : List Str} {tk : Str → Bool} {t : Tg} {e : Expr} (h : mtT N tk t e = true) : nStar e = true := by
  cases t <;> cases e <;> first | rfl | cases h
theorem mtTs_each {N : List Str} {tk : Str → Bool} (env : PySem.Env) : ∀ {ts : List Tg} {es : List Expr}, mtTs N tk ts es = true → (assignEach es env).length = ts.length ∧ (assignEach es env).findIdx? (·.1) = none
  | [], [], _ => ⟨rfl, rfl⟩
  | t :: ts, e :: es, h => by
    unfold mtTs at h
    rw [Bool.and_eq_true] at h
    obtain ⟨h1, h2⟩ := mtTs_each env h.2
    rw [assignEach_cons (mtT_star h.1)]
    refine ⟨by rw [List.length_cons, List.length_cons, h1], ?_⟩
    rw [List.findIdx?_cons, h2]
    rfl
  | [], _ :: _, h => by cases h
  | _ :: _, [], h => by cases h
mutual
theorem sG {X : Cx} (hc : X.calm = true) (nd : X.N.Nodup) {tk : Str → Bool} (T : TkOk X tk) : ∀ (t : Tg) (e : Expr), mtT X.N tk t e = true → PG X e (LG X t)
  | .nm i, .Name x p, h => by
    unfold mtT at h
    rw [Bool.and_eq_true] at h
    obtain ⟨h1, h2⟩ := T x h.2
    exact zg_name nd (of_decide_eq_true h.1) h1 h2
  | .tp ts, .Tuple es k p, h => by
    unfold mtT at h
    obtain ⟨h1, h2⟩ := mtTs_each X.env h
    exact zg_tup hc (sGs hc nd T ts es h) h1 h2
  | .nm _, .BoolOp _ _ _, h => by cases h
  | .nm _, .NamedExpr _ _ _, h => by cases h
  | .nm _, .BinOp _ _ _ _, h => by cases h
  | .nm _, .UnaryOp _ _ _, h => by cases h
  | .nm _, .Lambda _ _ _ _, h => by cases h
  | .nm _, .IfExp _ _ _ _, h => by cases h
  | .nm _, .Dict _ _ _, h => by cases h
  | .nm _, .Set _ _ _, h => by cases h
  | .nm _, .ListComp _ _ _ _, h => by cases h
  | .nm _, .SetComp _ _ _ _, h => by cases h
  | .nm _, .DictComp _ _ _ _ _, h => by cases h
  | .nm _, .GeneratorExp _ _ _ _, h => by cases h
  | .nm _, .Await _ _, h => by cases h
  | .nm _, .Yield _ _, h => by cases h
  | .nm _, .YieldFrom _ _, h => by cases h
  | .nm _, .Compare _ _ _ _, h => by cases h
  | .nm _, .Call _ _ _ _, h => by cases h
  | .nm _, .FormattedValue _ _ _ _, h => by cases h
  | .nm _, .JoinedStr _ _, h => by cases h
  | .nm _, .Constant _ _ _, h => by cases h
  | .nm _, .Attribute _ _ _, h => by cases h
  | .nm _, .Subscript _ _ _, h => by cases h
  | .nm _, .Starred _ _, h => by cases h
  | .nm _, .List _ _, h => by cases h
  | .nm _, .Tuple _ _ _, h => by cases h
  | .nm _, .Slice _ _ _ _, h => by cases h
  | .tp _, .BoolOp _ _ _, h => by cases h
  | .tp _, .NamedExpr _ _ _, h => by cases h
  | .tp _, .BinOp _ _ _ _, h => by cases h
  | .tp _, .UnaryOp _ _ _, h => by cases h
  | .tp _, .Lambda _ _ _ _, h => by cases h
  | .tp _, .IfExp _ _ _ _, h => by cases h
  | .tp _, .Dict _ _ _, h => by cases h
  | .tp _, .Set _ _ _, h => by cases h
  | .tp _, .ListComp _ _ _ _, h => by cases h
  | .tp _, .SetComp _ _ _ _, h => by cases h
  | .tp _, .DictComp _ _ _ _ _, h => by cases h
  | .tp _, .GeneratorExp _ _ _ _, h => by cases h
  | .tp _, .Await _ _, h => by cases h
  | .tp _, .Yield _ _, h => by cases h
  | .tp _, .YieldFrom _ _, h => by cases h
  | .tp _, .Compare _ _ _ _, h => by cases h
  | .tp _, .Call _ _ _ _, h => by cases h
  | .tp _, .FormattedValue _ _ _ _, h => by cases h
  | .tp _, .JoinedStr _ _, h => by cases h
  | .tp _, .Constant _ _ _, h => by cases h
  | .tp _, .Attribute _ _ _, h => by cases h
  | .tp _, .Subscript _ _ _, h => by cases h
  | .tp _, .Starred _ _, h => by cases h
  | .tp _, .Name _ _, h => by cases h
  | .tp _, .List _ _, h => by cases h
  | .tp _, .Slice _ _ _ _, h => by cases h
theorem sGs {X : Cx} (hc : X.calm = true) (nd : X.N.Nodup) {tk : Str → Bool} (T : TkOk X tk) : ∀ (ts : List Tg) (es : List Expr), mtTs X.N tk ts es = true → PGs X es (LGs X ts)
  | [], [], _ => zgs_nil
  | t :: ts, e :: es, h => by
    unfold mtTs at h
    rw [Bool.and_eq_true] at h
    exact zgs_cons (sG hc nd T t e h.1) (sGs hc nd T ts es h.2) (by rw [assignEach_cons (mtT_star h.1)]; rfl)
  | [], _ :: _, h => by cases h
  | _ :: _, [], h => by cases h
end

theorem beq_str {x y : Str} (h : (x == y) = true) : x = y := by simpa using h
theorem mtEs_star {nm : List Cn} {cs : List (Str × PV)} {N : List Str} {sc : Scope} : ∀ {xs : List Ex} {es : List Expr}, mtEs nm cs N sc xs es = true → ∀ a ∈ es, nStar a = true
  | [], [], _ => fun a h => by cases h
  | x :: xs, e :: es, h => by
    unfold mtEs at h
    rw [Bool.and_eq_true, Bool.and_eq_true] at h
    intro a ha
    rcases List.mem_cons.mp ha with rfl | ha
    · exact h.1.1
    · exact mtEs_star h.2 a ha
  | [], _ :: _, h => by unfold mtEs at h; cases h
  | _ :: _, [], h => by unfold mtEs at h; cases h
theorem mtEs_nil {nm : List Cn} {cs : List (Str × PV)} {N : List Str} {sc : Scope} {xs : List Ex} {es : List Expr} (h : mtEs nm cs N sc xs es = true) (e : es = []) : xs = [] := by
  subst e
  cases xs with
  | nil => rfl
  | cons x xs => unfold mtEs at h; cases h

def SE (Γ : List Spec) (nm : List Cn) (cs : List (Str × PV)) (x : Ex) : Prop := ∀ (X : Cx) (W : WX) (e : Expr), Good X W nm cs Γ → mtE nm cs X.N X.env.scope x e = true → PE X e (LE X W (wE Γ x))
def ST (Γ : List Spec) (nm : List Cn) (cs : List (Str × PV)) (x : Ex) : Prop := ∀ (X : Cx) (W : WX) (e : Expr), Good X W nm cs Γ → mtE nm cs X.N X.env.scope x e = true → PT X e (LT X W (wT Γ x))
def SW (Γ : List Spec) (nm : List Cn) (cs : List (Str × PV)) (x : Ex) : Prop := ∀ (X : Cx) (W : WX) (op : BoolOp) (vs : List Expr) (pos : Pos), Good X W nm cs Γ → mtE nm cs X.N X.env.scope x (.BoolOp op vs pos) = true → PW X (.BoolOp op vs pos) (LT X W (wT Γ x))
def SEs (Γ : List Spec) (nm : List Cn) (cs : List (Str × PV)) (xs : List Ex) : Prop := ∀ (X : Cx) (W : WX) (es : List Expr), Good X W nm cs Γ → mtEs nm cs X.N X.env.scope xs es = true → PA X es (LA X W (wEs Γ xs))
def SO (Γ : List Spec) (nm : List Cn) (cs : List (Str × PV)) (x : Option Ex) : Prop := ∀ (X : Cx) (W : WX) (e : Option Expr), Good X W nm cs Γ → mtO nm cs X.N X.env.scope x e = true → PO X e (LO X W (wO Γ x))
def SI (Γ : List Spec) (nm : List Cn) (cs : List (Str × PV)) (x : Ex) : Prop := ∀ (X : Cx) (W : WX) (tg e : Expr), Good X W nm cs Γ → mtI nm cs X.N X.env.scope x tg e = true → PI X tg e (LI X W (wI Γ x))

/-- the plain tests: from the value -/
def tPlain : Expr → Bool
  | .BoolOp .. => false
  | .UnaryOp .Not .. => false
  | .IfExp .. => false
  | .Compare .. => false
  | _ => true
theorem isTrue_of {e : Expr} (h : tPlain e = true) (env : PySem.Env) (whole : Sem Value) : isTrue e env whole = (do let v ← whole; standAt e.pos; holding [v] (truthy v)) := by
  cases e with
  | UnaryOp op x p => cases op <;> first | rfl | cases h
  | _ => first | rfl | cases h

section
variable {x y z : Ex} {xs : List Ex}
theorem ok_var {i : Nat} : SE Γ nm cs (.var i) := fun X W e G h => by
  cases e with
  | Name x p =>
    have h : (decide (X.N[i]? = some x) && visB X.env.scope x && !(x == ("__debug__" : Str)) && !(x == ("__classdict__" : Str))) = true := h
    simp only [Bool.and_eq_true, Bool.not_eq_true'] at h
    obtain ⟨⟨⟨h1, h2⟩, h3⟩, h4⟩ := h
    exact ze_var (of_decide_eq_true h1) (vis_of h2) h3 h4 Γ
  | _ => cases h
theorem const_cases {k : Const → Bool} {e : Expr} (P : Expr → Prop) (h : (match e with | .Constant c _ _ => k c | _ => false) = true) (hp : ∀ c j p, k c = true → P (.Constant c j p)) : P e := by
  cases e with
  | Constant c j p => exact hp c j p h
  | _ => cases h
theorem ok_non : SE Γ nm cs .non := fun X W e G h => by
  cases e with
  | Constant c j p =>
    cases c with
    | none => exact ze_c pe_non (v := .non) (fun _ _ _ _ w => w) fun _ _ => rfl
    | _ => cases h
  | _ => cases h
theorem ok_bl {b : Bool} : SE Γ nm cs (.bl b) := fun X W e G h => by
  cases e with
  | Constant c j p =>
    cases c with
    | bool c =>
      have h : (b == c) = true := h
      obtain rfl : b = c := by simpa using h
      exact ze_c pe_bl (v := .bl b) (fun _ _ _ _ w => w) fun _ _ => rfl
    | _ => cases h
  | _ => cases h
theorem ok_int {b : Int} : SE Γ nm cs (.int b) := fun X W e G h => by
  cases e with
  | Constant c j p =>
    cases c with
    | int c =>
      have h : (b == c) = true := h
      obtain rfl : b = c := by simpa using h
      exact ze_c pe_int (v := .int b) (fun _ _ _ _ w => w) fun _ _ => rfl
    | _ => cases h
  | _ => cases h
theorem ok_str {b : Str} : SE Γ nm cs (.str b) := fun X W e G h => by
  cases e with
  | Constant c j p =>
    cases c with
    | str c =>
      have h : (b == c) = true := h
      obtain rfl := beq_str h
      exact ze_c pe_str (v := .str b) (fun _ _ _ _ w => w) fun _ _ => rfl
    | _ => cases h
  | _ => cases h
theorem ok_con {x : Str} {v : PV} : SE Γ nm cs (.con x v) := fun X W e G h => by
  cases e with
  | Name y p =>
    have h : (x == y && glB X.env.scope y && cs.any fun p => p.1 == y && p.2.same v) = true := h
    simp only [Bool.and_eq_true, List.any_eq_true] at h
    obtain ⟨⟨h1, h2⟩, ⟨y', v'⟩, hm, h3, h4⟩ := h
    obtain rfl := beq_str h3
    obtain rfl := PV.same_eq h4
    obtain ⟨u, t, hu, hr, hp⟩ := G.cn _ hm
    obtain ⟨g1, g2⟩ := gl_of h2
    exact ze_c (pe_glob g1 hu hr g2) (fun _ _ _ _ w => w) fun ρ H => hp ρ H
  | _ => cases h
theorem ok_bin {o : Operator} (hx : SE Γ nm cs x) (hy : SE Γ nm cs y) : SE Γ nm cs (.bin o x y) := fun X W e G h => by
  cases e with
  | BinOp l p r pos =>
    have h : (decide (o = p) && mtE nm cs X.N X.env.scope x l && mtE nm cs X.N X.env.scope y r) = true := h
    simp only [Bool.and_eq_true] at h
    obtain ⟨⟨h1, h2⟩, h3⟩ := h
    obtain rfl := of_decide_eq_true h1
    exact ze_bin (hx X W l G h2) (hy X W r G h3)
  | _ => cases h
theorem ok_neg (hx : SE Γ nm cs x) : SE Γ nm cs (.neg x) := fun X W e G h => by
  cases e with
  | UnaryOp op l p =>
    cases op with
    | USub => exact ze_neg (hx X W l G h)
    | _ => cases h
  | _ => cases h
theorem ok_not (hx : SE Γ nm cs x) : SE Γ nm cs (.not x) := fun X W e G h => by
  cases e with
  | UnaryOp op l p =>
    cases op with
    | Not => exact ze_not (hx X W l G h)
    | _ => cases h
  | _ => cases h
theorem ok_and (hx : SE Γ nm cs x) (hy : SE Γ nm cs y) : SE Γ nm cs (.and x y) := fun X W e G h => by
  cases e with
  | BoolOp op vs pos =>
    match op, vs, h with
    | .And, [a, b], h =>
      have h : (mtE nm cs X.N X.env.scope x a && mtE nm cs X.N X.env.scope y b) = true := h
      simp only [Bool.and_eq_true] at h
      exact ze_and (hx X W a G h.1) (ze_one (hy X W b G h.2))
    | .And, a :: b :: c :: r, h =>
      have h : (mtE nm cs X.N X.env.scope x a && mtE nm cs X.N X.env.scope y (.BoolOp .And (b :: c :: r) pos)) = true := h
      simp only [Bool.and_eq_true] at h
      exact ze_and (hx X W a G h.1) (hy X W _ G h.2)
    | .And, [], h => cases h
    | .And, [_], h => cases h
    | .Or, _, h => cases h
  | _ => cases h
theorem ok_or (hx : SE Γ nm cs x) (hy : SE Γ nm cs y) : SE Γ nm cs (.or x y) := fun X W e G h => by
  cases e with
  | BoolOp op vs pos =>
    match op, vs, h with
    | .Or, [a, b], h =>
      have h : (mtE nm cs X.N X.env.scope x a && mtE nm cs X.N X.env.scope y b) = true := h
      simp only [Bool.and_eq_true] at h
      exact ze_or (hx X W a G h.1) (ze_one (hy X W b G h.2))
    | .Or, a :: b :: c :: r, h =>
      have h : (mtE nm cs X.N X.env.scope x a && mtE nm cs X.N X.env.scope y (.BoolOp .Or (b :: c :: r) pos)) = true := h
      simp only [Bool.and_eq_true] at h
      exact ze_or (hx X W a G h.1) (hy X W _ G h.2)
    | .Or, [], h => cases h
    | .Or, [_], h => cases h
    | .And, _, h => cases h
  | _ => cases h
theorem ow_and (hx : ST Γ nm cs x) (hy : ST Γ nm cs y) (hw : SW Γ nm cs y) : SW Γ nm cs (.and x y) := fun X W op vs pos G h => by
  match op, vs, h with
  | .And, [a, b], h =>
    have h : (mtE nm cs X.N X.env.scope x a && mtE nm cs X.N X.env.scope y b) = true := h
    simp only [Bool.and_eq_true] at h
    exact zw_and (hx X W a G h.1) (pw_and1 (hy X W b G h.2))
  | .And, a :: b :: c :: r, h =>
    have h : (mtE nm cs X.N X.env.scope x a && mtE nm cs X.N X.env.scope y (.BoolOp .And (b :: c :: r) pos)) = true := h
    simp only [Bool.and_eq_true] at h
    exact zw_and (hx X W a G h.1) (hw X W _ _ _ G h.2)
  | .And, [], h => cases h
  | .And, [_], h => cases h
  | .Or, _, h => cases h
theorem ow_or (hx : ST Γ nm cs x) (hy : ST Γ nm cs y) (hw : SW Γ nm cs y) : SW Γ nm cs (.or x y) := fun X W op vs pos G h => by
  match op, vs, h with
  | .Or, [a, b], h =>
    have h : (mtE nm cs X.N X.env.scope x a && mtE nm cs X.N X.env.scope y b) = true := h
    simp only [Bool.and_eq_true] at h
    exact zw_or (hx X W a G h.1) (pw_or1 (hy X W b G h.2))
  | .Or, a :: b :: c :: r, h =>
    have h : (mtE nm cs X.N X.env.scope x a && mtE nm cs X.N X.env.scope y (.BoolOp .Or (b :: c :: r) pos)) = true := h
    simp only [Bool.and_eq_true] at h
    exact zw_or (hx X W a G h.1) (hw X W _ _ _ G h.2)
  | .Or, [], h => cases h
  | .Or, [_], h => cases h
  | .And, _, h => cases h
theorem ot_bool (hw : SW Γ nm cs x) (hb : ∀ N sc e, mtE nm cs N sc x e = true → ∃ op vs pos, e = .BoolOp op vs pos) : ST Γ nm cs x := fun X W e G h => by
  obtain ⟨op, vs, pos, rfl⟩ := hb _ _ _ h
  exact (hw X W op vs pos G h).pt
theorem and_bool : ∀ (N : List Str) (sc : Scope) (e : Expr), mtE nm cs N sc (.and x y) e = true → ∃ op vs pos, e = .BoolOp op vs pos := fun N sc e h => by
  cases e with
  | BoolOp op vs pos => exact ⟨op, vs, pos, rfl⟩
  | _ => cases h
theorem or_bool : ∀ (N : List Str) (sc : Scope) (e : Expr), mtE nm cs N sc (.or x y) e = true → ∃ op vs pos, e = .BoolOp op vs pos := fun N sc e h => by
  cases e with
  | BoolOp op vs pos => exact ⟨op, vs, pos, rfl⟩
  | _ => cases h
theorem ok_ife (hx : ST Γ nm cs x) (hy : SE Γ nm cs y) (hz : SE Γ nm cs z) : SE Γ nm cs (.ife x y z) := fun X W e G h => by
  cases e with
  | IfExp a b c pos =>
    have h : (mtE nm cs X.N X.env.scope x a && mtE nm cs X.N X.env.scope y b && mtE nm cs X.N X.env.scope z c) = true := h
    simp only [Bool.and_eq_true] at h
    exact ze_ife (hx X W a G h.1.1) (hy X W b G h.1.2) (hz X W c G h.2)
  | _ => cases h
theorem ot_ife (hx : ST Γ nm cs x) (hy : ST Γ nm cs y) (hz : ST Γ nm cs z) : ST Γ nm cs (.ife x y z) := fun X W e G h => by
  cases e with
  | IfExp a b c pos =>
    have h : (mtE nm cs X.N X.env.scope x a && mtE nm cs X.N X.env.scope y b && mtE nm cs X.N X.env.scope z c) = true := h
    simp only [Bool.and_eq_true] at h
    exact zt_ife (hx X W a G h.1.1) (hy X W b G h.1.2) (hz X W c G h.2)
  | _ => cases h
theorem ot_not (hx : ST Γ nm cs x) : ST Γ nm cs (.not x) := fun X W e G h => by
  cases e with
  | UnaryOp op l p =>
    cases op with
    | Not => exact zt_not (hx X W l G h)
    | _ => cases h
  | _ => cases h
theorem cmp_inv {o : CmpOp} {N : List Str} {sc : Scope} {e : Expr} (h : mtE nm cs N sc (.cmp o x y) e = true) : ∃ l r pos, e = .Compare l [o] [r] pos ∧ nSet r = true ∧ mtE nm cs N sc x l = true ∧ mtE nm cs N sc y r = true := by
  cases e with
  | Compare l ops rs pos =>
    match ops, rs, h with
    | [p], [r], h =>
      have h : (decide (o = p) && nSet r && mtE nm cs N sc x l && mtE nm cs N sc y r) = true := h
      simp only [Bool.and_eq_true] at h
      obtain rfl := of_decide_eq_true h.1.1.1
      exact ⟨l, r, pos, rfl, h.1.1.2, h.1.2, h.2⟩
    | [], _, h => cases h
    | [_], [], h => cases h
    | [_], _ :: _ :: _, h => cases h
    | _ :: _ :: _, _, h => cases h
  | _ => cases h
theorem ok_cmp {o : CmpOp} (hx : SE Γ nm cs x) (hy : SE Γ nm cs y) : SE Γ nm cs (.cmp o x y) := fun X W e G h => by
  obtain ⟨l, r, pos, rfl, h1, h2, h3⟩ := cmp_inv h
  exact ze_cmp G.un (hx X W l G h2) (hy X W r G h3) (marks_of h1)
theorem ot_cmp {o : CmpOp} (hx : SE Γ nm cs x) (hy : SE Γ nm cs y) : ST Γ nm cs (.cmp o x y) := fun X W e G h => by
  obtain ⟨l, r, pos, rfl, h1, h2, h3⟩ := cmp_inv h
  exact zt_cmp G.un (hx X W l G h2) (hy X W r G h3) (marks_of h1)
theorem chn_inv {o o' : CmpOp} {N : List Str} {sc : Scope} {e : Expr} (h : mtE nm cs N sc (.chn o o' x y z) e = true) : ∃ l r t pos, e = .Compare l [o, o'] [r, t] pos ∧ nSet t = true ∧ mtE nm cs N sc x l = true ∧ mtE nm cs N sc y r = true ∧ mtE nm cs N sc z t = true := by
  cases e with
  | Compare l ops rs pos =>
    match ops, rs, h with
    | [p, p'], [r, t], h =>
      have h : (decide (o = p) && decide (o' = p') && nSet t && mtE nm cs N sc x l && mtE nm cs N sc y r && mtE nm cs N sc z t) = true := h
      simp only [Bool.and_eq_true] at h
      obtain rfl := of_decide_eq_true h.1.1.1.1.1
      obtain rfl := of_decide_eq_true h.1.1.1.1.2
      exact ⟨l, r, t, pos, rfl, h.1.1.1.2, h.1.1.2, h.1.2, h.2⟩
    | [], _, h => cases h
    | [_], _, h => cases h
    | [_, _], [], h => cases h
    | [_, _], [_], h => cases h
    | [_, _], _ :: _ :: _ :: _, h => cases h
    | _ :: _ :: _ :: _, _, h => cases h
  | _ => cases h
theorem ok_chn {o o' : CmpOp} (hx : SE Γ nm cs x) (hy : SE Γ nm cs y) (hz : SE Γ nm cs z) : SE Γ nm cs (.chn o o' x y z) := fun X W e G h => by
  obtain ⟨l, r, t, pos, rfl, h1, h2, h3, h4⟩ := chn_inv h
  exact ze_chn G.un (hx X W l G h2) (hy X W r G h3) (hz X W t G h4) (marks2_of h1)
theorem ot_chn {o o' : CmpOp} (hx : SE Γ nm cs x) (hy : SE Γ nm cs y) (hz : SE Γ nm cs z) : ST Γ nm cs (.chn o o' x y z) := fun X W e G h => by
  obtain ⟨l, r, t, pos, rfl, h1, h2, h3, h4⟩ := chn_inv h
  exact zt_chn G.un (hx X W l G h2) (hy X W r G h3) (hz X W t G h4) (marks2_of h1)
theorem chn3_inv {v : Ex} {o o' o'' : CmpOp} {N : List Str} {sc : Scope} {e : Expr} (h : mtE nm cs N sc (.chn3 o o' o'' x y z v) e = true) : ∃ l r t u pos, e = .Compare l [o, o', o''] [r, t, u] pos ∧ nSet u = true ∧ mtE nm cs N sc x l = true ∧ mtE nm cs N sc y r = true ∧ mtE nm cs N sc z t = true ∧ mtE nm cs N sc v u = true := by
  cases e with
  | Compare l ops rs pos =>
    match ops, rs, h with
    | [p, p', p''], [r, t, u], h =>
      have h : (decide (o = p) && decide (o' = p') && decide (o'' = p'') && nSet u && mtE nm cs N sc x l && mtE nm cs N sc y r && mtE nm cs N sc z t && mtE nm cs N sc v u) = true := h
      simp only [Bool.and_eq_true] at h
      obtain ⟨⟨⟨⟨⟨⟨⟨h1, h2⟩, h3⟩, h4⟩, h5⟩, h6⟩, h7⟩, h8⟩ := h
      obtain rfl := of_decide_eq_true h1
      obtain rfl := of_decide_eq_true h2
      obtain rfl := of_decide_eq_true h3
      exact ⟨l, r, t, u, pos, rfl, h4, h5, h6, h7, h8⟩
    | [], _, h => cases h
    | [_], _, h => cases h
    | [_, _], _, h => cases h
    | [_, _, _], [], h => cases h
    | [_, _, _], [_], h => cases h
    | [_, _, _], [_, _], h => cases h
    | [_, _, _], _ :: _ :: _ :: _ :: _, h => cases h
    | _ :: _ :: _ :: _ :: _, _, h => cases h
  | _ => cases h
theorem ok_chn3 {v : Ex} {o o' o'' : CmpOp} (hx : SE Γ nm cs x) (hy : SE Γ nm cs y) (hz : SE Γ nm cs z) (hv : SE Γ nm cs v) : SE Γ nm cs (.chn3 o o' o'' x y z v) := fun X W e G h => by
  obtain ⟨l, r, t, u, pos, rfl, h1, h2, h3, h4, h5⟩ := chn3_inv h
  exact ze_chn3 G.un (hx X W l G h2) (hy X W r G h3) (hz X W t G h4) (hv X W u G h5) (marks3_of h1)
theorem ot_chn3 {v : Ex} {o o' o'' : CmpOp} (hx : SE Γ nm cs x) (hy : SE Γ nm cs y) (hz : SE Γ nm cs z) (hv : SE Γ nm cs v) : ST Γ nm cs (.chn3 o o' o'' x y z v) := fun X W e G h => by
  obtain ⟨l, r, t, u, pos, rfl, h1, h2, h3, h4, h5⟩ := chn3_inv h
  exact zt_chn3 G.un (hx X W l G h2) (hy X W r G h3) (hz X W t G h4) (hv X W u G h5) (marks3_of h1)
theorem ok_tup (hs : SEs Γ nm cs xs) : SE Γ nm cs (.tup xs) := fun X W e G h => by
  cases e with
  | Tuple es k pos => exact ze_tup (hs X W es G h)
  | _ => cases h
theorem ok_xtp (hs : SEs Γ nm cs xs) : SE Γ nm cs (.xtp xs) := fun X W e G h => by
  cases e with
  | Tuple es k pos => exact ze_xtp (hs X W es G h)
  | _ => cases h
theorem ok_dg1 (hx : SE Γ nm cs x) (hy : SE Γ nm cs y) : SE Γ nm cs (.dg1 x y) := fun X W e G h => by
  cases e with
  | Call f as ks pos =>
    cases f with
    | Attribute o n apos =>
      match as, ks, h with
      | [b], [], h =>
        have h : (n == ("get" : Str) && attrOk o && apos.endLine == pos.line && nStar b && mtE nm cs X.N X.env.scope x o && mtE nm cs X.N X.env.scope y b) = true := h
        simp only [Bool.and_eq_true] at h
        obtain ⟨⟨⟨⟨⟨h1, h2⟩, h3⟩, h4⟩, h5⟩, h6⟩ := h
        obtain rfl := beq_str h1
        exact ze_dg1 G.un (hx X W o G h5) (hy X W b G h6) (attr_of h2 _ _ _) h3 fun r => star_of h4 r X.env
    | _ => cases h
  | _ => cases h
theorem ok_dg2 (hx : SE Γ nm cs x) (hy : SE Γ nm cs y) (hz : SE Γ nm cs z) : SE Γ nm cs (.dg2 x y z) := fun X W e G h => by
  cases e with
  | Call f as ks pos =>
    cases f with
    | Attribute o n apos =>
      match as, ks, h with
      | [b, c], [], h =>
        have h : (n == ("get" : Str) && attrOk o && apos.endLine == pos.line && nStar b && nStar c && mtE nm cs X.N X.env.scope x o && mtE nm cs X.N X.env.scope y b && mtE nm cs X.N X.env.scope z c) = true := h
        simp only [Bool.and_eq_true] at h
        obtain ⟨⟨⟨⟨⟨⟨⟨h1, h2⟩, h3⟩, h4⟩, h4'⟩, h5⟩, h6⟩, h7⟩ := h
        obtain rfl := beq_str h1
        exact ze_dg2 G.un (hx X W o G h5) (hy X W b G h6) (hz X W c G h7) (attr_of h2 _ _ _) h3 (fun r => star_of h4 r X.env) fun r => star_of h4' r X.env
    | _ => cases h
  | _ => cases h
theorem ok_sm {m : SM} (hx : SE Γ nm cs x) (hy : SE Γ nm cs y) : SE Γ nm cs (.sm m x y) := fun X W e G h => by
  cases e with
  | Call f as ks pos =>
    cases f with
    | Attribute o n apos =>
      match as, ks, h with
      | [b], [], h =>
        have h : (n == Str.ofString (smName m) && attrOk o && apos.endLine == pos.line && nStar b && mtE nm cs X.N X.env.scope x o && mtE nm cs X.N X.env.scope y b) = true := h
        simp only [Bool.and_eq_true] at h
        obtain ⟨⟨⟨⟨⟨h1, h2⟩, h3⟩, h4⟩, h5⟩, h6⟩ := h
        obtain rfl := beq_str h1
        cases m with
        | join => exact ze_smG PySem.F.slot_str_join PySem.F.type_str_join mt_join (fun _ _ _ _ _ _ _ _ _ => so_join) (hx X W o G h5) (hy X W b G h6) (attr_of h2 _ _ _) h3 fun r => star_of h4 r X.env
        | index => exact ze_smG PySem.F.slot_str_index PySem.F.type_str_index mt_sindex (fun _ _ _ _ _ _ _ _ _ => so_index) (hx X W o G h5) (hy X W b G h6) (attr_of h2 _ _ _) h3 fun r => star_of h4 r X.env
    | _ => cases h
  | _ => cases h
theorem pps_of {X : Cx} {W : WX} {pos : Pos} (G : Good X W nm cs Γ) : ∀ {ks : List Str} {xs : List Ex} {keys : List (Option Expr)} {es : List Expr}, ks.length = xs.length → mtK ks keys = true → mtEs nm cs X.N X.env.scope xs es = true → (∀ x ∈ xs, SE Γ nm cs x) →
    PPs X pos keys es (trsOf X W Γ ks xs) ∧ keys.length = ks.length ∧ keys.all (·.isSome) = true ∧ keys.length = es.length
  | [], [], [], [], _, _, _, _ => ⟨pps_nil, rfl, rfl, rfl⟩
  | [], [], [], _ :: _, _, _, h, _ => nomatch h
  | [], [], _ :: _, _, _, h, _, _ => nomatch h
  | [], _ :: _, _, _, e, _, _, _ => nomatch e
  | _ :: _, [], _, _, e, _, _, _ => nomatch e
  | _ :: _, _ :: _, [], _, _, h, _, _ => nomatch h
  | _ :: _, _ :: _, _ :: _, [], _, _, h, _ => nomatch h
  | k :: ks, x :: xs, y :: keys, e :: es, l, h1, h2, hs => by
    match y, h1 with
    | some (.Constant (.str z) j p), h1 =>
      have h1 : (z == k && mtK ks keys) = true := h1
      have h2 : (nStar e && mtE nm cs X.N X.env.scope x e && mtEs nm cs X.N X.env.scope xs es) = true := h2
      simp only [Bool.and_eq_true] at h1 h2
      obtain rfl := beq_str h1.1
      obtain ⟨q1, q2, q3, q4⟩ := pps_of G (pos := pos) (by simpa using l) h1.2 h2.2 fun w hw => hs w (List.mem_cons_of_mem _ hw)
      exact ⟨pps_cons pe_str (hs x List.mem_cons_self X W e G h2.1.2) q1, by rw [List.length_cons, List.length_cons, q2], by rw [List.all_cons, q3]; rfl, by rw [List.length_cons, List.length_cons, q4]⟩
theorem ok_dcd {ks : List Str} (hs : ∀ x ∈ xs, SE Γ nm cs x) : SE Γ nm cs (.dcd ks xs) := fun X W e G h => by
  cases e with
  | Dict keys es pos =>
    have h : (mtK ks keys && decide (1 ≤ ks.length ∧ ks.length ≤ 15 ∧ ks.length = xs.length) && mtEs nm cs X.N X.env.scope xs es) = true := h
    simp only [Bool.and_eq_true, decide_eq_true_eq] at h
    obtain ⟨⟨h1, h2, h3, h4⟩, h5⟩ := h
    obtain ⟨q1, q2, q3, q4⟩ := pps_of G (pos := pos) h4 h1 h5 hs
    exact ze_dcd h4 h2 h3 q2 q3 q4 q1
  | _ => cases h
theorem ok_lst (hs : SEs Γ nm cs xs) : SE Γ nm cs (.lst xs) := fun X W e G h => by
  cases e with
  | List es pos => exact ze_lst (hs X W es G h)
  | _ => cases h
theorem ok_dct : SE Γ nm cs .dct := fun X W e G h => by
  cases e with
  | Dict ks vs pos =>
    match ks, vs, h with
    | [], [], h => exact ze_dct
    | _ :: _, _, h => cases h
    | [], _ :: _, h => cases h
  | _ => cases h
theorem ok_idx (hx : SE Γ nm cs x) (hy : SE Γ nm cs y) : SE Γ nm cs (.idx x y) := fun X W e G h => by
  cases e with
  | Subscript l j pos =>
    have h : (nSlice j && mtE nm cs X.N X.env.scope x l && mtE nm cs X.N X.env.scope y j) = true := h
    simp only [Bool.and_eq_true] at h
    exact ze_idx (by have := G.un; omega) (hx X W l G h.1.2) (hy X W j G h.2) (plain_ix h.1.1)
  | _ => cases h
theorem ok_slc {lo hi : Option Ex} (hx : SE Γ nm cs x) (hl : SO Γ nm cs lo) (hh : SO Γ nm cs hi) : SE Γ nm cs (.slc x lo hi) := fun X W e G h => by
  cases e with
  | Subscript l j pos =>
    cases j with
    | Slice p q st pos2 =>
      cases st with
      | none =>
        have h : (mtE nm cs X.N X.env.scope x l && mtO nm cs X.N X.env.scope lo p && mtO nm cs X.N X.env.scope hi q) = true := h
        simp only [Bool.and_eq_true] at h
        exact ze_slc (hx X W l G h.1.1) (hl X W p G h.1.2) (hh X W q G h.2)
      | some _ => cases h
    | _ => cases h
  | _ => cases h
theorem ok_call {i : Nat} (hs : SEs Γ nm cs xs) : SE Γ nm cs (.call i xs) := fun X W e G h => by
  cases e with
  | Call f as ks pos =>
    cases f with
    | Name g p =>
      cases ks with
      | nil =>
        have h : (decide (nm[i]? = some (.fn g)) && glB X.env.scope g && mtEs nm cs X.N X.env.scope xs as) = true := h
        simp only [Bool.and_eq_true] at h
        obtain ⟨⟨h1, h2⟩, h3⟩ := h
        obtain ⟨S, hS, fr⟩ := G.fn i (.fn g) (of_decide_eq_true h1)
        obtain ⟨g1, g2⟩ := gl_of h2
        exact ze_call fr hS G.tk g1 g2 (hs X W as G h3) (mtEs_nil h3) fun a ha r => star_of (mtEs_star h3 a ha) r X.env
      | cons _ _ => cases h
    | _ => cases h
  | _ => cases h
theorem any_cl {nm : List Cn} {c f : Str} (h : nm.any (fun q => match q with | .cl c' fs => c' == c && fs.contains f | _ => false) = true) : ∃ (i : Nat) (fs : List Str), nm[i]? = some (.cl c fs) ∧ f ∈ fs := by
  obtain ⟨q, hq, hc⟩ := List.any_eq_true.mp h
  obtain ⟨i, hi, rfl⟩ := List.mem_iff_getElem.mp hq
  refine ⟨i, ?_⟩
  have e := List.getElem?_eq_getElem hi
  generalize nm[i] = q at hc e
  cases q with
  | cl c' fs =>
    have hc : (c' == c && fs.contains f) = true := hc
    rw [Bool.and_eq_true] at hc
    obtain rfl : c' = c := by simpa using hc.1
    exact ⟨fs, e, by simpa using hc.2⟩
  | _ => cases hc
theorem mcall_eq {o : Expr} {name : Str} {apos pos : Pos} {env : PySem.Env} {ov : Value} {n : Nat} {args : List (Bool × Sem Value)} {kws : List (Option Str × Sem Value)} (hf : methodCallForm n args kws = true) (hl : (apos.endLine == pos.line) = true) :
    methodCall o name apos pos env ov n args kws = (do
      let (f, first) ← holding [ov] (getMethod ov name (do return (← importBound o env).getD true))
      callWith pos f first args kws) := by
  unfold methodCall methodCallPos calleeOf
  rw [hf, hl]
  rfl
theorem form_of {es : List Expr} {env : PySem.Env} {pos : Pos} (hn : es.length < 30) (h : ∀ a ∈ es, ∀ r, starEach (a :: r) env = (false, eval a env) :: starEach r env) : methodCallForm (es.length + ([] : List Keyword).length) (backTo pos (starEach es env)) (backToKw pos (keywordEach [] env)) = true := by
  unfold methodCallForm
  have p := star_plain (pos := pos) h
  have q : (backTo pos (starEach es env)).all (!·.1) = true := by
    rw [List.all_eq_not_any_not]
    simpa using p
  rw [q]
  show (true && true && decide (es.length + 0 + 0 < 30)) = true
  simpa using hn
theorem ok_fld {x : Ex} {c f : Str} (hx : SE Γ nm cs x) : SE Γ nm cs (.fld x c f) := fun X W e G h => by
  cases e with
  | Attribute a g pos =>
    cases a with
    | Name y p =>
      have h : (g == f && nm.any (fun q => match q with | .cl c' fs => c' == c && fs.contains f | _ => false) && mtE nm cs X.N X.env.scope x (.Name y p)) = true := h
      simp only [Bool.and_eq_true] at h
      obtain ⟨⟨h1, h2⟩, h3⟩ := h
      obtain rfl : g = f := by simpa using h1
      obtain ⟨i, fl, e, hf⟩ := any_cl h2
      obtain ⟨S, _, cr⟩ := G.fn i _ e
      exact ze_fld cr hf (hx X W _ G h3) (by rfl)
    | _ => cases h
  | _ => cases h
theorem ok_fldx {x : Ex} {c f : Str} (hx : SE Γ nm cs x) : SE Γ nm cs (.fldx x c f) := fun X W e G h => by
  cases e with
  | Attribute a g pos =>
    have h : (g == f && nm.any (fun q => decide (q = .xf c f)) && attrOk a && mtE nm cs X.N X.env.scope x a) = true := h
    simp only [Bool.and_eq_true] at h
    obtain ⟨⟨⟨h1, h2⟩, h3⟩, h4⟩ := h
    obtain rfl := beq_str h1
    obtain ⟨q, hq, e⟩ := List.any_eq_true.mp h2
    have e := of_decide_eq_true e
    subst e
    obtain ⟨k, hk⟩ := List.mem_iff_getElem?.mp hq
    obtain ⟨S, _, xr⟩ := G.fn k _ hk
    exact ze_fldx xr (hx X W a G h4) (attr_of h3 _ _ _)
  | _ => cases h
theorem ok_mth {i : Nat} {c m : Str} {x : Ex} (hx : SE Γ nm cs x) (hs : SEs Γ nm cs xs) : SE Γ nm cs (.mth i c m x xs) := fun X W e G h => by
  cases e with
  | Call f as ks pos =>
    cases f with
    | Attribute a g apos =>
      cases a with
      | Name y p =>
        cases ks with
        | nil =>
          have h : (g == m && decide (as.length < 30) && apos.endLine == pos.line && decide (nm[i]? = some (.me c m)) && mtE nm cs X.N X.env.scope x (.Name y p) && mtEs nm cs X.N X.env.scope xs as) = true := h
          simp only [Bool.and_eq_true] at h
          obtain ⟨⟨⟨⟨⟨h1, h8⟩, h9⟩, h2⟩, h3⟩, h4⟩ := h
          obtain rfl : g = m := by simpa using h1
          obtain ⟨S, hS, fr⟩ := G.fn i _ (of_decide_eq_true h2)
          have A := hs X W as G h4
          have n0 := mtEs_nil h4
          have st := fun a ha r => star_of (mtEs_star h4 a ha) r X.env
          exact ze_mth (pl := (do return (← importBound (.Name y p) X.env).getD true)) fr hS G.tk (hx X W _ G h3) A n0 st (by
            rw [arm_eval_Call, attr_of (e := .Name y p) rfl]
            simp only [mcall_eq (form_of (of_decide_eq_true h8) st) h9])
        | cons _ _ => cases h
      | _ => cases h
    | _ => cases h
  | _ => cases h
theorem ok_new {i : Nat} {c : Str} (hs : SEs Γ nm cs xs) : SE Γ nm cs (.new i c xs) := fun X W e G h => by
  cases e with
  | Call f as ks pos =>
    cases f with
    | Name g p =>
      cases ks with
      | nil =>
        have h : (g == c && decide (nm[i]? = some (.mk c)) && glB X.env.scope g && mtEs nm cs X.N X.env.scope xs as) = true := h
        simp only [Bool.and_eq_true] at h
        obtain ⟨⟨⟨h0, h1⟩, h2⟩, h3⟩ := h
        obtain rfl : g = c := by simpa using h0
        obtain ⟨S, hS, fr⟩ := G.fn i _ (of_decide_eq_true h1)
        obtain ⟨g1, g2⟩ := gl_of h2
        exact ze_new fr hS G.tk g1 g2 (hs X W as G h3) (mtEs_nil h3) fun a ha r => star_of (mtEs_star h3 a ha) r X.env
      | cons _ _ => cases h
    | _ => cases h
  | _ => cases h
end
end
end Z

/-! ZsM: soundness of expressions as a whole, second part. -/
namespace Z
open PySem PyProof.Rows L2

section
variable {nm : List Cn} {cs : List (Str × PV)} {Γ : List Spec} {x y z : Ex} {xs : List Ex}
theorem bi_inv {b : BI} {N : List Str} {sc : Scope} {e : Expr} (h : mtE nm cs N sc (.bi b xs) e = true) : ∃ f p as pos gs bs, e = .Call (.Name f p) as [] pos ∧ biForm b f as = some (gs, bs) ∧ (∀ g ∈ gs, glB sc g = true) ∧ mtEs nm cs N sc xs bs = true := by
  cases e with
  | Call f as ks pos =>
    cases f with
    | Name g p =>
      cases ks with
      | nil =>
        have h : (match biForm b g as with | some (gs, bs) => gs.all (glB sc) && mtEs nm cs N sc xs bs | none => false) = true := h
        cases e : biForm b g as with
        | none => rw [e] at h; cases h
        | some q =>
          obtain ⟨gs, bs⟩ := q
          rw [e] at h
          have h : (gs.all (glB sc) && mtEs nm cs N sc xs bs) = true := h
          rw [Bool.and_eq_true, List.all_eq_true] at h
          exact ⟨g, p, as, pos, gs, bs, rfl, e, h.1, h.2⟩
      | cons _ _ => cases h
    | _ => cases h
  | _ => cases h
theorem nested_inv {as : List Expr} {α : Type} {k : Str → List Expr → Option α} {r : α} (h : (match as with | [.Call (.Name y _) bs [] _] => k y bs | _ => none) = some r) : ∃ y p bs q, as = [.Call (.Name y p) bs [] q] ∧ k y bs = some r := by
  match as, h with
  | [.Call (.Name y p) bs [] q], h => exact ⟨y, p, bs, q, rfl, h⟩
theorem if_some {α : Type} {c : Bool} {a r : α} (h : (if c = true then some a else none) = some r) : c = true ∧ a = r := by
  cases c with
  | true => exact ⟨rfl, by simpa using h⟩
  | false => simp at h
theorem one_of {as : List Expr} (h : decide (as.length = 1) = true) : ∃ a, as = [a] := by
  match as, of_decide_eq_true h with
  | [a], _ => exact ⟨a, rfl⟩
theorem mtEs_one {N : List Str} {sc : Scope} {a : Expr} (h : mtEs nm cs N sc xs [a] = true) : ∃ x, xs = [x] ∧ nStar a = true ∧ mtE nm cs N sc x a = true := by
  match xs, h with
  | [x], h =>
    have h : (nStar a && mtE nm cs N sc x a && true) = true := h
    simp only [Bool.and_eq_true] at h
    exact ⟨x, rfl, h.1.1, h.1.2⟩
  | [], h => cases h
  | _ :: _ :: _, h =>
    have h : (nStar a && mtE nm cs N sc _ a && false) = true := h
    simp at h
theorem ok_bi1 {b : BI} {n : String} {ty : Bool} (hb : biName b = some (n, ty)) (mem : n ∈ blts) (hs : SEs Γ nm cs xs) : SE Γ nm cs (.bi b xs) := fun X W e G h => by
  obtain ⟨f, p, as, pos, gs, bs, rfl, k, hg, hm⟩ := bi_inv h
  have k : (if f == Str.ofString n && !as.isEmpty then some ([f], as) else none) = some (gs, bs) := by
    cases b <;> cases hb <;> exact k
  obtain ⟨k1, k2⟩ := if_some k
  cases k2
  rw [Bool.and_eq_true] at k1
  obtain rfl := beq_str k1.1
  cases as with
  | nil => cases k1.2
  | cons a r => exact ze_bi hb G.calm G.un (gl_of (hg _ (by simp))).1 (G.bl n mem) (hs X W _ G hm) fun a ha r => star_of (mtEs_star hm a ha) r X.env
theorem ok_tuple (hx : ∀ x, xs = [x] → SE Γ nm cs x) : SE Γ nm cs (.bi .tuple xs) := fun X W e G h => by
  obtain ⟨f, p, as, pos, gs, bs, rfl, k, hg, hm⟩ := bi_inv h
  obtain ⟨k1, k2⟩ := if_some k
  cases k2
  rw [Bool.and_eq_true] at k1
  obtain rfl := beq_str k1.1
  obtain ⟨a, rfl⟩ := one_of k1.2
  obtain ⟨x, rfl, h1, h2⟩ := mtEs_one hm
  exact ze_tuple (gl_of (hg _ (by simp))).1 (G.bl "tuple" (by decide)) (hx x rfl X W a G h2) (star_of h1 _ _)
theorem ok_xtuple (hx : ∀ x, xs = [x] → SE Γ nm cs x) : SE Γ nm cs (.bi .xtuple xs) := fun X W e G h => by
  obtain ⟨f, p, as, pos, gs, bs, rfl, k, hg, hm⟩ := bi_inv h
  obtain ⟨k1, k2⟩ := if_some k
  cases k2
  rw [Bool.and_eq_true] at k1
  obtain rfl := beq_str k1.1
  obtain ⟨a, rfl⟩ := one_of k1.2
  obtain ⟨x, rfl, h1, h2⟩ := mtEs_one hm
  exact ze_xtuple (gl_of (hg _ (by simp))).1 (G.bl "tuple" (by decide)) (hx x rfl X W a G h2) (star_of h1 _ _)
theorem ok_lenkeys (hx : ∀ x, xs = [x] → SE Γ nm cs x) : SE Γ nm cs (.bi .lenkeys xs) := fun X W e G h => by
  obtain ⟨f, p, as, pos, gs, bs, rfl, k, hg, hm⟩ := bi_inv h
  obtain ⟨g, p2, cs, q, rfl, k⟩ := nested_inv k
  obtain ⟨k1, k2⟩ := if_some k
  cases k2
  rw [Bool.and_eq_true, Bool.and_eq_true] at k1
  obtain rfl := beq_str k1.1.1
  obtain rfl := beq_str k1.1.2
  obtain ⟨a, rfl⟩ := one_of k1.2
  obtain ⟨x, rfl, h1, h2⟩ := mtEs_one hm
  exact ze_lenkeys G.calm (gl_of (hg _ (by simp))).1 (G.bl "len" (by decide)) (gl_of (hg _ (by simp))).1 (G.bl "set" (by decide)) (hx x rfl X W a G h2) (star_of h1 _ _)
theorem ok_lenset (hx : ∀ x, xs = [x] → SE Γ nm cs x) : SE Γ nm cs (.bi .lenset xs) := fun X W e G h => by
  obtain ⟨f, p, as, pos, gs, bs, rfl, k, hg, hm⟩ := bi_inv h
  obtain ⟨g, p2, cs, q, rfl, k⟩ := nested_inv k
  obtain ⟨k1, k2⟩ := if_some k
  cases k2
  rw [Bool.and_eq_true, Bool.and_eq_true] at k1
  obtain rfl := beq_str k1.1.1
  obtain rfl := beq_str k1.1.2
  obtain ⟨a, rfl⟩ := one_of k1.2
  obtain ⟨x, rfl, h1, h2⟩ := mtEs_one hm
  exact ze_lenset G.calm (gl_of (hg _ (by simp))).1 (G.bl "len" (by decide)) (gl_of (hg _ (by simp))).1 (G.bl "set" (by decide)) (hx x rfl X W a G h2) (star_of h1 _ _)
theorem ok_sortedset (hx : ∀ x, xs = [x] → SE Γ nm cs x) : SE Γ nm cs (.bi .sortedset xs) := fun X W e G h => by
  obtain ⟨f, p, as, pos, gs, bs, rfl, k, hg, hm⟩ := bi_inv h
  obtain ⟨g, p2, cs, q, rfl, k⟩ := nested_inv k
  obtain ⟨k1, k2⟩ := if_some k
  cases k2
  rw [Bool.and_eq_true, Bool.and_eq_true] at k1
  obtain rfl := beq_str k1.1.1
  obtain rfl := beq_str k1.1.2
  obtain ⟨a, rfl⟩ := one_of k1.2
  obtain ⟨x, rfl, h1, h2⟩ := mtEs_one hm
  exact ze_sortedset G.calm (gl_of (hg _ (by simp))).1 (G.bl "sorted" (by decide)) (gl_of (hg _ (by simp))).1 (G.bl "set" (by decide)) (hx x rfl X W a G h2) (star_of h1 _ _)
theorem ok_mdf {mx : Bool} (hx : SE Γ nm cs x) : SE Γ nm cs (.mdf mx x) := fun X W e G h => by
  cases e with
  | Call f as ks pos =>
    cases f with
    | Name g p =>
      match as, ks, h with
      | [a], [⟨some k, .Constant .none j p2, kp⟩], h =>
        have h : (g == Str.ofString (Zh.mmName mx) && k == ("default" : Str) && glB X.env.scope g && nStar a && mtE nm cs X.N X.env.scope x a) = true := h
        simp only [Bool.and_eq_true] at h
        obtain ⟨⟨⟨⟨h1, h2⟩, h3⟩, h4⟩, h5⟩ := h
        obtain rfl := beq_str h1
        obtain rfl := beq_str h2
        exact ze_mdf G.calm G.un (gl_of h3).1 (G.bl (Zh.mmName mx) (by cases mx <;> decide)) (hx X W a G h5) fun r => star_of h4 r X.env
    | _ => cases h
  | _ => cases h
theorem Good.none {X : Cx} {W : WX} (G : Good X W nm cs Γ) : Good X (fun _ _ _ _ => False) nm cs Γ := ⟨G.calm, G.nd, G.un, takes0, G.bl, G.fn, G.cn⟩
theorem ok_lck {i : Nat} (hx : SE Γ nm cs x) : SE Γ nm cs (.lck i x) := fun X W e G h => by
  cases e with
  | ListComp el gs scope pos => exact ze_lck (hx X _ _ G.none h)
  | _ => cases h
theorem ok_lka (hx : SE Γ nm cs x) : SE Γ nm cs (.lka x) := fun X W e G h => by
  cases e with
  | ListComp el gs scope pos => exact ze_lka (hx X _ _ G.none h)
  | _ => cases h
theorem ok_rep (hx : SE Γ nm cs x) : SE Γ nm cs (.rep x) := fun X W e G h => by
  cases e with
  | Call f as ks pos =>
    cases f with
    | Name g p =>
      match as, ks, h with
      | [a], [], h =>
        have h : (g == ("repr" : Str) && glB X.env.scope g && nm.any (fun q => decide (q = .gd)) && nStar a && mtE nm cs X.N X.env.scope x a) = true := h
        simp only [Bool.and_eq_true] at h
        obtain ⟨⟨⟨⟨h1, h2⟩, h3⟩, h4⟩, h5⟩ := h
        obtain rfl := beq_str h1
        obtain ⟨q, hq, e⟩ := List.any_eq_true.mp h3
        obtain rfl : q = .gd := of_decide_eq_true e
        obtain ⟨i, hi⟩ := List.getElem?_of_mem hq
        obtain ⟨S, _, gd⟩ := G.fn i _ hi
        exact ze_rep gd G.un (gl_of h2).1 (G.bl "repr" (by decide)) (hx X W a G h5) (star_of h4 _ X.env)
    | _ => cases h
  | _ => cases h
theorem ok_rev (hx : SE Γ nm cs x) : SE Γ nm cs (.rev x) := fun X W e G h => by
  cases e with
  | Subscript a i pos =>
    match i, h with
    | .Slice none none (some (.UnaryOp .USub (.Constant (.int i) j p1) p2)) p3, h =>
      have h : (i == 1 && mtE nm cs X.N X.env.scope x a) = true := h
      rw [Bool.and_eq_true] at h
      obtain rfl : i = 1 := by simpa using h.1
      exact ze_rev (hx X W a G h.2)
  | _ => cases h
theorem ok_listrange (hx : ∀ x ∈ xs, SE Γ nm cs x) : SE Γ nm cs (.bi .listrange xs) := fun X W e G h => by
  obtain ⟨f, p, as, pos, gs, bs, rfl, k, hg, hm⟩ := bi_inv h
  obtain ⟨g, p2, cs, q, rfl, k⟩ := nested_inv k
  obtain ⟨k1, k2⟩ := if_some k
  cases k2
  rw [Bool.and_eq_true, Bool.and_eq_true, Bool.or_eq_true] at k1
  obtain rfl := beq_str k1.1.1
  obtain rfl := beq_str k1.1.2
  rcases k1.2 with k2 | k2
  · obtain ⟨a, rfl⟩ := one_of k2
    obtain ⟨x, rfl, h1, h2⟩ := mtEs_one hm
    exact ze_listrange G.calm (gl_of (hg _ (by simp))).1 (G.bl "list" (by decide)) (gl_of (hg _ (by simp))).1 (G.bl "range" (by decide)) (hx x (by simp) X W a G h2) (star_of h1 _ _)
  · obtain ⟨a, b, rfl⟩ : ∃ a b, bs = [a, b] := by
      match bs, k2 with
      | [a, b], _ => exact ⟨a, b, rfl⟩
    cases xs with
    | nil => cases hm
    | cons x xs =>
      rw [mtEs, Bool.and_eq_true, Bool.and_eq_true] at hm
      obtain ⟨y, rfl, h3, h4⟩ := mtEs_one hm.2
      refine ze_listrange2 G.calm (gl_of (hg _ (by simp))).1 (G.bl "list" (by decide)) (gl_of (hg _ (by simp))).1 (G.bl "range" (by decide)) (hx x (by simp) X W a G hm.1.2) (hx y (by simp) X W b G h4) (star_of hm.1.1 _ _) (star_of h3 _ _) ?_
      rw [star_of h3]; rfl
theorem ok_mi {m : MI} (hx : SE Γ nm cs x) (hs : ∀ y, xs = [y] → SE Γ nm cs y) : SE Γ nm cs (.mi m x xs) := fun X W e G h => by
  cases e with
  | Call f as ks pos =>
    cases f with
    | Attribute a n apos =>
      cases ks with
      | nil =>
        have h : (n == Str.ofString (miName m) && decide (as.length = miAr m) && attrOk a && apos.endLine == pos.line && mtE nm cs X.N X.env.scope x a && mtEs nm cs X.N X.env.scope xs as) = true := h
        simp only [Bool.and_eq_true] at h
        obtain ⟨⟨⟨⟨⟨h1, h2⟩, h3⟩, h4⟩, h5⟩, h6⟩ := h
        obtain rfl := beq_str h1
        cases m with
        | append =>
          obtain ⟨b, rfl⟩ := one_of h2
          obtain ⟨y, rfl, h7, h8⟩ := mtEs_one h6
          exact ze_mi1 PySem.F.slot_list_append PySem.F.type_list_append mt_append (fun _ _ _ _ _ _ _ _ _ => mo_append) (hx X W a G h5) (hs y rfl X W b G h8) (attr_of h3 _ _ _) h4 fun r => star_of h7 r X.env
        | popAt =>
          obtain ⟨b, rfl⟩ := one_of h2
          obtain ⟨y, rfl, h7, h8⟩ := mtEs_one h6
          exact ze_mi1 PySem.F.slot_list_pop PySem.F.type_list_pop mt_popAt (fun _ _ _ _ _ _ _ _ _ => mo_popAt) (hx X W a G h5) (hs y rfl X W b G h8) (attr_of h3 _ _ _) h4 fun r => star_of h7 r X.env
        | index =>
          obtain ⟨b, rfl⟩ := one_of h2
          obtain ⟨y, rfl, h7, h8⟩ := mtEs_one h6
          exact ze_mi1 PySem.F.slot_list_index PySem.F.type_list_index (mt_indexD G.un) (fun _ _ _ _ _ _ _ _ _ => mo_index) (hx X W a G h5) (hs y rfl X W b G h8) (attr_of h3 _ _ _) h4 fun r => star_of h7 r X.env
        | remove =>
          obtain ⟨b, rfl⟩ := one_of h2
          obtain ⟨y, rfl, h7, h8⟩ := mtEs_one h6
          exact ze_mi1 PySem.F.slot_list_remove PySem.F.type_list_remove mt_remove (fun _ _ _ _ _ _ _ _ _ => mo_remove) (hx X W a G h5) (hs y rfl X W b G h8) (attr_of h3 _ _ _) h4 fun r => star_of h7 r X.env
        | extend =>
          obtain ⟨b, rfl⟩ := one_of h2
          obtain ⟨y, rfl, h7, h8⟩ := mtEs_one h6
          exact ze_mi1 PySem.F.slot_list_extend PySem.F.type_list_extend mt_extend (fun _ _ _ _ _ _ _ _ _ => mo_extend) (hx X W a G h5) (hs y rfl X W b G h8) (attr_of h3 _ _ _) h4 fun r => star_of h7 r X.env
        | clear =>
          obtain rfl : as = [] := List.length_eq_zero_iff.mp (of_decide_eq_true h2)
          cases xs with
          | nil => exact ze_mi0 PySem.F.slot_list_clear PySem.F.type_list_clear mt_clear (fun _ _ _ _ _ _ _ => mo_clear) (hx X W a G h5) (attr_of h3 _ _ _) h4
          | cons _ _ => cases h6
        | pop =>
          obtain rfl : as = [] := List.length_eq_zero_iff.mp (of_decide_eq_true h2)
          cases xs with
          | nil => exact ze_mi0 PySem.F.slot_list_pop PySem.F.type_list_pop mt_pop (fun _ _ _ _ _ _ _ => mo_pop) (hx X W a G h5) (attr_of h3 _ _ _) h4
          | cons _ _ => cases h6
      | cons _ _ => cases h
    | _ => cases h
  | _ => cases h
theorem ok_isi {t : IT} (hx : SE Γ nm cs x) : SE Γ nm cs (.isi x t) := fun X W e G h => by
  cases e with
  | Call f as ks pos =>
    cases f with
    | Name g p =>
      match as, ks, h with
      | [a, .Name ty p2], [], h =>
        have h : (g == ("isinstance" : Str) && ty == Str.ofString (itName t) && glB X.env.scope g && glB X.env.scope ty && nStar a && mtE nm cs X.N X.env.scope x a) = true := h
        simp only [Bool.and_eq_true] at h
        obtain ⟨⟨⟨⟨⟨h1, h2⟩, h3⟩, h4⟩, h5⟩, h6⟩ := h
        obtain rfl := beq_str h1
        obtain rfl := beq_str h2
        exact ze_isi (gl_of h3).1 (G.bl "isinstance" (by decide)) (gl_of h4).1 (G.bl (itName t) (by cases t <;> decide)) (hx X W a G h6) fun r => star_of h5 r X.env
    | _ => cases h
  | _ => cases h
end
end Z

/-! ZsN: soundness of expressions as a whole, the end. -/
namespace Z
open PySem PyProof.Rows L2

theorem SR.blk {X : Cx} {ρ : List Addr} {σz : Env} {h : Hep} {σ : L2.St} {H : Hp} (s : SR X ρ σz h σ H) {s0 : Shared} {H0 : Hp} {scope : Scope} {ce : PySem.Env} {fp : List Addr} : SR (X.blk s0 H0 scope ce fp) ρ σz h σ H := ⟨s.hr, s.len, s.sl⟩
theorem SR.unblk {X : Cx} {ρ : List Addr} {σz : Env} {h : Hep} {σ : L2.St} {H : Hp} {s0 : Shared} {H0 : Hp} {scope : Scope} {ce : PySem.Env} {fp : List Addr} (s : SR (X.blk s0 H0 scope ce fp) ρ σz h σ H) : SR X ρ σz h σ H := ⟨s.hr, s.len, s.sl⟩
theorem LG.blk {X : Cx} {t : Tg} {v : V} {σ : L2.St} {H : Hp} {Q : L2.St → Hp → Prop} (q : LG X t v σ H Q) {s0 : Shared} {H0 : Hp} {scope : Scope} {ce : PySem.Env} {fp : List Addr} : LG (X.blk s0 H0 scope ce fp) t v σ H Q := by
  obtain ⟨ρ, σz, h, x, s, p, σz', e, k⟩ := q
  exact ⟨ρ, σz, h, x, s.blk, p, σz', e, fun σ' s' b => k σ' s'.unblk b⟩
theorem LE.blk {X : Cx} {W : WX} {w : WE} {σ : L2.St} {H : Hp} {Q : VK} (q : LE X W w σ H Q) {s0 : Shared} {H0 : Hp} {scope : Scope} {ce : PySem.Env} {fp : List Addr} : LE (X.blk s0 H0 scope ce fp) W w σ H Q := by
  obtain ⟨ρ, σz, h, F, E, s, kq, kx, w⟩ := q
  exact ⟨ρ, σz, h, F, E, s.blk, kq, kx, w⟩
theorem LT.blk {X : Cx} {W : WX} {w : Env → Hep → KB → KX → Prop} {σ : L2.St} {H : Hp} {Q : Bool → Hp → Prop} (q : LT X W w σ H Q) {s0 : Shared} {H0 : Hp} {scope : Scope} {ce : PySem.Env} {fp : List Addr} : LT (X.blk s0 H0 scope ce fp) W w σ H Q := by
  obtain ⟨ρ, σz, h, F, E, s, kq, kx, w⟩ := q
  exact ⟨ρ, σz, h, F, E, s.blk, kq, kx, w⟩
section
variable {nm : List Cn} {cs : List (Str × PV)} {Γ : List Spec} {x y z : Ex} {xs : List Ex}
def SC (Γ : List Spec) (nm : List Cn) (cs : List (Str × PV)) (c : Option Ex) : Prop := ∀ y, c = some y → ST Γ nm cs y
theorem ok_comp {own : List Nat} {t : Tg} {c : Option Ex} (hi : SI Γ nm cs x) (hc : SC Γ nm cs c) (he : SE Γ nm cs y) : SE Γ nm cs (.comp own t x c y) := fun X W a G h => by
  cases a with
  | ListComp el gens scope pos =>
    obtain ⟨tg, ir, ifs, rfl⟩ : ∃ tg ir ifs, gens = [⟨tg, ir, ifs, 0⟩] := by
      match gens, h with
      | [⟨tg, ir, ifs, 0⟩], _ => exact ⟨tg, ir, ifs, rfl⟩
    · have h : (L2.blkC X.N X.env.scope scope (ownP X.N own) && decide ((ownP X.N own).map (·.2) = own) && (slotsT t).all (fun i => own.contains i) && mtT X.N (tkB scope X.env.scope) t tg && mtI nm cs X.N X.env.scope x tg ir &&
        mtC nm cs X.N (L2.relS scope X.env.scope) c ifs && mtE nm cs X.N (L2.relS scope X.env.scope) y el && nSet ir) = true := h
      simp only [Bool.and_eq_true] at h
      obtain ⟨⟨⟨⟨⟨⟨⟨h1, h2⟩, h3⟩, h4⟩, h5⟩, h6⟩, h7⟩, h8⟩ := h
      have e2 := of_decide_eq_true h2
      have sub : ∀ j ∈ slotsT t, j ∈ own := fun j hj => by
        have q := List.all_eq_true.mp h3 j hj
        simpa using q
      have pg : ∀ (s : Shared) (H : Hp) (C : Addr) (cl : List (Str × Addr)) (fp : List Addr), PG (X.blk s H scope (compEnvC scope cl C X.env) fp) tg (LG X t) := fun s H C cl fp =>
        pg_imp (sG (X := X.blk s H scope (compEnvC scope cl C X.env) fp) G.calm G.nd (tkB_ok s H scope C cl fp) t tg h4) fun v σ H Q q => q.blk
      have pe : ∀ (s : Shared) (H : Hp) (C : Addr) (cl : List (Str × Addr)) (fp : List Addr), PE (X.blk s H scope (compEnvC scope cl C X.env) fp) el (LE X (fun _ _ _ _ => False) (wE Γ y)) := fun s H C cl fp =>
        pe_imp (he (X.blk s H scope (compEnvC scope cl C X.env) fp) _ el (G.blk s H scope _ fp) h7) fun σ H Q q => q.blk
      clear h
      match c, ifs with
      | none, [] =>
        refine pe_imp (pe_lc G.calm G.nd (hi X W tg ir G h5) (blkOk_by h1) pg (fun _ _ _ _ _ => pts_nil) pe (fun v => folded_of h8 _ v)) fun σ H Q q => ?_
        rw [e2]
        refine le_comp (it := x) (co := none) sub (fun σ H Q q => ?_) (fun σ H Q q => q) σ H Q q
        obtain ⟨ρ, σz, h, F, E, sr, kq, kx, w⟩ := q
        exact kq true h ρ H .refl sr.hr w
      | some c, [f] =>
        have pt : ∀ (s : Shared) (H : Hp) (C : Addr) (cl : List (Str × Addr)) (fp : List Addr), PT (X.blk s H scope (compEnvC scope cl C X.env) fp) f (LT X (fun _ _ _ _ => False) (wT Γ c)) := fun s H C cl fp =>
          pt_imp (hc c rfl (X.blk s H scope (compEnvC scope cl C X.env) fp) _ f (G.blk s H scope _ fp) h6) fun σ H Q q => q.blk
        refine pe_imp (pe_lc G.calm G.nd (hi X W tg ir G h5) (blkOk_by h1) pg (fun s H C cl fp => pts_one (pt s H C cl fp)) pe (fun v => folded_of h8 _ v)) fun σ H Q q => ?_
        rw [e2]
        refine le_comp (it := x) (co := some c) sub (fun σ H Q q => ?_) (fun σ H Q q => q) σ H Q q
        obtain ⟨ρ, σz, h, F, E, sr, kq, kx, w⟩ := q
        exact ⟨ρ, σz, h, F, noX, sr, kq, KXok.no, w⟩
      | none, _ :: _ => cases h6
      | some _, [] => cases h6
      | some _, _ :: _ :: _ => cases h6
  | _ => cases h
theorem oks_nil : SEs Γ nm cs [] := fun X W es G h => by
  cases es with
  | nil => exact za_nil
  | cons _ _ => cases h
theorem oks_cons (hx : SE Γ nm cs x) (hs : SEs Γ nm cs xs) : SEs Γ nm cs (x :: xs) := fun X W es G h => by
  cases es with
  | nil => cases h
  | cons a as =>
    have h : (nStar a && mtE nm cs X.N X.env.scope x a && mtEs nm cs X.N X.env.scope xs as) = true := h
    simp only [Bool.and_eq_true] at h
    exact za_cons (hx X W a G h.1.2) (hs X W as G h.2) (star_of h.1.1 as X.env)
theorem oko_none : SO Γ nm cs none := fun X W e G h => by
  cases e with
  | none => exact zo_none
  | some _ => cases h
theorem oko_some (hx : SE Γ nm cs x) : SO Γ nm cs (some x) := fun X W e G h => by
  cases e with
  | none => cases h
  | some a => exact zo_some (hx X W a G h)
theorem oi_rng1 (hx : SE Γ nm cs x) : SI Γ nm cs (.rng1 x) := fun X W tg e G h => by
  cases e with
  | Call f as ks pos =>
    cases f with
    | Name g p =>
      match as, ks, h with
      | [a], [], h =>
        have h : (g == ("range" : Str) && glB X.env.scope g && nStar a && mtE nm cs X.N X.env.scope x a) = true := h
        simp only [Bool.and_eq_true] at h
        obtain ⟨⟨⟨h1, h2⟩, h3⟩, h4⟩ := h
        obtain rfl := beq_str h1
        exact zi_rng1 (gl_of h2).1 (G.bl "range" (by decide)) (hx X W a G h4) (star_of h3 [] X.env)
    | _ => cases h
  | _ => cases h
theorem oi_rng2 (hx : SE Γ nm cs x) (hy : SE Γ nm cs y) : SI Γ nm cs (.rng2 x y) := fun X W tg e G h => by
  cases e with
  | Call f as ks pos =>
    cases f with
    | Name g p =>
      match as, ks, h with
      | [a, b], [], h =>
        have h : (g == ("range" : Str) && glB X.env.scope g && nStar a && nStar b && mtE nm cs X.N X.env.scope x a && mtE nm cs X.N X.env.scope y b) = true := h
        simp only [Bool.and_eq_true] at h
        obtain ⟨⟨⟨⟨⟨h1, h2⟩, h3⟩, h4⟩, h5⟩, h6⟩ := h
        obtain rfl := beq_str h1
        exact zi_rng2 (gl_of h2).1 (G.bl "range" (by decide)) (hx X W a G h5) (hy X W b G h6) (star_of h3 [b] X.env) (star_of h4 [] X.env)
    | _ => cases h
  | _ => cases h
theorem oi_rng3 (hx : SE Γ nm cs x) (hy : SE Γ nm cs y) (hz : SE Γ nm cs z) : SI Γ nm cs (.rng3 x y z) := fun X W tg e G h => by
  cases e with
  | Call f as ks pos =>
    cases f with
    | Name g p =>
      match as, ks, h with
      | [a, b, c], [], h =>
        have h : (g == ("range" : Str) && glB X.env.scope g && nStar a && nStar b && nStar c && mtE nm cs X.N X.env.scope x a && mtE nm cs X.N X.env.scope y b && mtE nm cs X.N X.env.scope z c) = true := h
        simp only [Bool.and_eq_true] at h
        obtain ⟨⟨⟨⟨⟨⟨⟨h1, h2⟩, h3⟩, h4⟩, h5⟩, h6⟩, h7⟩, h8⟩ := h
        obtain rfl := beq_str h1
        exact zi_rng3 (gl_of h2).1 (G.bl "range" (by decide)) (hx X W a G h6) (hy X W b G h7) (hz X W c G h8) (star_of h3 [b, c] X.env) (star_of h4 [c] X.env) (star_of h5 [] X.env)
    | _ => cases h
  | _ => cases h
theorem oi_enum (hx : SE Γ nm cs x) : SI Γ nm cs (.enum x) := fun X W tg e G h => by
  cases e with
  | Call f as ks pos =>
    cases f with
    | Name g p =>
      match tg, as, ks, h with
      | .Tuple es k tp, [a], [], h =>
        have h : (g == ("enumerate" : Str) && glB X.env.scope g && nStar a && mtE nm cs X.N X.env.scope x a) = true := h
        simp only [Bool.and_eq_true] at h
        obtain ⟨⟨⟨h1, h2⟩, h3⟩, h4⟩ := h
        obtain rfl := beq_str h1
        exact zi_enum (gl_of h2).1 (G.bl "enumerate" (by decide)) (hx X W a G h4) (star_of h3 [] X.env)
    | _ => cases tg <;> cases h
  | _ => cases tg <;> cases h
theorem oi_zip (hx : SE Γ nm cs x) (hy : SE Γ nm cs y) : SI Γ nm cs (.zip x y) := fun X W tg e G h => by
  cases e with
  | Call f as ks pos =>
    cases f with
    | Name g p =>
      match tg, as, ks, h with
      | .Tuple es k tp, [a, b], [], h =>
        have h : (g == ("zip" : Str) && glB X.env.scope g && nStar a && nStar b && mtE nm cs X.N X.env.scope x a && mtE nm cs X.N X.env.scope y b) = true := h
        simp only [Bool.and_eq_true] at h
        obtain ⟨⟨⟨⟨⟨h1, h2⟩, h3⟩, h4⟩, h5⟩, h6⟩ := h
        obtain rfl := beq_str h1
        exact zi_zip (gl_of h2).1 (G.bl "zip" (by decide)) (hx X W a G h5) (hy X W b G h6) (star_of h3 [b] X.env) (star_of h4 [] X.env)
    | _ => cases tg <;> cases h
  | _ => cases tg <;> cases h
theorem oi_wld {i : Nat} : SI Γ nm cs (.wld i) := fun X W tg e G h => by
  cases e with
  | Name y p => exact zi_wld (ok_var X W (.Name y p) G h)
  | _ => cases h
theorem oi_wlx (hx : SE Γ nm cs x) : SI Γ nm cs (.wlx x) := fun X W tg e G h => zi_wlx (hx X W e G h)
theorem oi_wlk (hx : SE Γ nm cs x) : SI Γ nm cs (.wlk x) := fun X W tg e G h => zi_walk (hx X W e G h)

/-! ### as a whole -/
structure OK (Γ : List Spec) (nm : List Cn) (cs : List (Str × PV)) (x : Ex) : Prop where
  e : SE Γ nm cs x
  t : ST Γ nm cs x
  w : SW Γ nm cs x
  i : SI Γ nm cs x
structure OKs (Γ : List Spec) (nm : List Cn) (cs : List (Str × PV)) (xs : List Ex) : Prop where
  e : SEs Γ nm cs xs
  m : ∀ x ∈ xs, OK Γ nm cs x
structure OKo (Γ : List Spec) (nm : List Cn) (cs : List (Str × PV)) (x : Option Ex) : Prop where
  e : SO Γ nm cs x
  m : ∀ y, x = some y → OK Γ nm cs y
theorem okP (h : SE Γ nm cs x) (hp : ∀ N sc e, mtE nm cs N sc x e = true → tPlain e = true) (hi : ∀ N sc tg e, mtI nm cs N sc x tg e = false) : OK Γ nm cs x where
  e := h
  t := fun X W e G m => zt_of (h X W e G m) fun whole => isTrue_of (hp _ _ _ m) X.env whole
  w := fun X W op vs pos G m => by cases hp _ _ _ m
  i := fun X W tg e G m => by rw [hi] at m; cases m
/-- only walked -/
theorem okI (h : SI Γ nm cs x) (hp : ∀ N sc e, mtE nm cs N sc x e = false) : OK Γ nm cs x where
  e := fun X W e G m => by rw [hp] at m; cases m
  t := fun X W e G m => by rw [hp] at m; cases m
  w := fun X W op vs pos G m => by rw [hp] at m; cases m
  i := h
theorem okB (h : SE Γ nm cs x) (t : ST Γ nm cs x) (hw : SW Γ nm cs x) (hi : ∀ N sc tg e, mtI nm cs N sc x tg e = false) : OK Γ nm cs x where
  e := h
  t := t
  w := hw
  i := fun X W tg e G m => by rw [hi] at m; cases m
theorem okT (h : SE Γ nm cs x) (t : ST Γ nm cs x) (hw : ∀ N sc op vs pos, mtE nm cs N sc x (.BoolOp op vs pos) = false) (hi : ∀ N sc tg e, mtI nm cs N sc x tg e = false) : OK Γ nm cs x :=
  okB h t (fun X W op vs pos G m => by rw [hw] at m; cases m) hi
theorem okl_cons (h : OK Γ nm cs x) (hs : OKs Γ nm cs xs) : OKs Γ nm cs (x :: xs) := ⟨oks_cons h.e hs.e, fun y m => by
  rcases List.mem_cons.mp m with e | m
  · rw [e]; exact h
  · exact hs.m y m⟩
theorem okO_some (h : OK Γ nm cs x) : OKo Γ nm cs (some x) := ⟨oko_some h.e, fun y m => by cases m; exact h⟩
theorem okBi {b : BI} (hs : OKs Γ nm cs xs) : OK Γ nm cs (.bi b xs) := by
  have one : ∀ x, xs = [x] → SE Γ nm cs x := fun x e => (hs.m x (by rw [e]; exact List.mem_singleton_self x)).e
  refine okP ?_ (fun N sc e h => by cases e <;> first | rfl | cases h) fun _ _ _ _ => rfl
  cases b with
  | tuple => exact ok_tuple one
  | lenset => exact ok_lenset one
  | xtuple => exact ok_xtuple one
  | lenkeys => exact ok_lenkeys one
  | listrange => exact ok_listrange fun x m => (hs.m x m).e
  | sortedset => exact ok_sortedset one
  | _ => exact ok_bi1 rfl (by decide) hs.e
mutual
theorem okA : ∀ x : Ex, OK Γ nm cs x
  | .var i => okP ok_var (fun N sc e h => by cases e <;> first | rfl | cases h) fun _ _ _ _ => rfl
  | .non => okP ok_non (fun N sc e h => by cases e <;> first | rfl | cases h) fun _ _ _ _ => rfl
  | .bl b => okP ok_bl (fun N sc e h => by cases e <;> first | rfl | cases h) fun _ _ _ _ => rfl
  | .int b => okP ok_int (fun N sc e h => by cases e <;> first | rfl | cases h) fun _ _ _ _ => rfl
  | .str b => okP ok_str (fun N sc e h => by cases e <;> first | rfl | cases h) fun _ _ _ _ => rfl
  | .con x v => okP ok_con (fun N sc e h => by cases e <;> first | rfl | cases h) fun _ _ _ _ => rfl
  | .bin o a b => okP (ok_bin (okA a).e (okA b).e) (fun N sc e h => by cases e <;> first | rfl | cases h) fun _ _ _ _ => rfl
  | .neg a => okP (ok_neg (okA a).e) (fun N sc e h => by
    cases e with
    | UnaryOp op l p => cases op <;> first | rfl | cases h
    | _ => first | rfl | cases h) fun _ _ _ _ => rfl
  | .not a => okT (ok_not (okA a).e) (ot_not (okA a).t) (fun _ _ _ _ _ => rfl) fun _ _ _ _ => rfl
  | .and a b => okB (ok_and (okA a).e (okA b).e) (ot_bool (ow_and (okA a).t (okA b).t (okA b).w) and_bool) (ow_and (okA a).t (okA b).t (okA b).w) fun _ _ _ _ => rfl
  | .or a b => okB (ok_or (okA a).e (okA b).e) (ot_bool (ow_or (okA a).t (okA b).t (okA b).w) or_bool) (ow_or (okA a).t (okA b).t (okA b).w) fun _ _ _ _ => rfl
  | .ife c a b => okT (ok_ife (okA c).t (okA a).e (okA b).e) (ot_ife (okA c).t (okA a).t (okA b).t) (fun _ _ _ _ _ => rfl) fun _ _ _ _ => rfl
  | .cmp o a b => okT (ok_cmp (okA a).e (okA b).e) (ot_cmp (okA a).e (okA b).e) (fun _ _ _ _ _ => rfl) fun _ _ _ _ => rfl
  | .chn o o' a b c => okT (ok_chn (okA a).e (okA b).e (okA c).e) (ot_chn (okA a).e (okA b).e (okA c).e) (fun _ _ _ _ _ => rfl) fun _ _ _ _ => rfl
  | .chn3 o o' o'' a b c d => okT (ok_chn3 (okA a).e (okA b).e (okA c).e (okA d).e) (ot_chn3 (okA a).e (okA b).e (okA c).e (okA d).e) (fun _ _ _ _ _ => rfl) fun _ _ _ _ => rfl
  | .lck i a => okP (ok_lck (okA a).e) (fun N sc e h => by cases e <;> first | rfl | cases h) fun _ _ _ _ => rfl
  | .lka a => okP (ok_lka (okA a).e) (fun N sc e h => by cases e <;> first | rfl | cases h) fun _ _ _ _ => rfl
  | .rep a => okP (ok_rep (okA a).e) (fun N sc e h => by cases e <;> first | rfl | cases h) fun _ _ _ _ => rfl
  | .mdf mx a => okP (ok_mdf (okA a).e) (fun N sc e h => by cases e <;> first | rfl | cases h) fun _ _ _ _ => rfl
  | .rev a => okP (ok_rev (okA a).e) (fun N sc e h => by cases e <;> first | rfl | cases h) fun _ _ _ _ => rfl
  | .tup es => okP (ok_tup (okL es).e) (fun N sc e h => by cases e <;> first | rfl | cases h) fun _ _ _ _ => rfl
  | .xtp es => okP (ok_xtp (okL es).e) (fun N sc e h => by cases e <;> first | rfl | cases h) fun _ _ _ _ => rfl
  | .dg1 a k => okP (ok_dg1 (okA a).e (okA k).e) (fun N sc e h => by cases e <;> first | rfl | cases h) fun _ _ _ _ => rfl
  | .dg2 a k d => okP (ok_dg2 (okA a).e (okA k).e (okA d).e) (fun N sc e h => by cases e <;> first | rfl | cases h) fun _ _ _ _ => rfl
  | .sm m a k => okP (ok_sm (okA a).e (okA k).e) (fun N sc e h => by cases e <;> first | rfl | cases h) fun _ _ _ _ => rfl
  | .dcd ks es => okP (ok_dcd fun x hx => ((okL es).m x hx).e) (fun N sc e h => by cases e <;> first | rfl | cases h) fun _ _ _ _ => rfl
  | .lst es => okP (ok_lst (okL es).e) (fun N sc e h => by cases e <;> first | rfl | cases h) fun _ _ _ _ => rfl
  | .dct => okP ok_dct (fun N sc e h => by cases e <;> first | rfl | cases h) fun _ _ _ _ => rfl
  | .idx a i => okP (ok_idx (okA a).e (okA i).e) (fun N sc e h => by cases e <;> first | rfl | cases h) fun _ _ _ _ => rfl
  | .slc a lo hi => okP (ok_slc (okA a).e (okO lo).e (okO hi).e) (fun N sc e h => by cases e <;> first | rfl | cases h) fun _ _ _ _ => rfl
  | .call f es => okP (ok_call (okL es).e) (fun N sc e h => by cases e <;> first | rfl | cases h) fun _ _ _ _ => rfl
  | .bi b es => okBi (okL es)
  | .fldx a c f => okP (ok_fldx (okA a).e) (fun N sc e h => by cases e <;> first | rfl | cases h) fun _ _ _ _ => rfl
  | .fld a c f => okP (ok_fld (okA a).e) (fun N sc e h => by cases e <;> first | rfl | cases h) fun _ _ _ _ => rfl
  | .mth i c m a es => okP (ok_mth (okA a).e (okL es).e) (fun N sc e h => by cases e <;> first | rfl | cases h) fun _ _ _ _ => rfl
  | .new i c es => okP (ok_new (okL es).e) (fun N sc e h => by cases e <;> first | rfl | cases h) fun _ _ _ _ => rfl
  | .mi m a es => okP (ok_mi (okA a).e fun x e => ((okL es).m x (by rw [e]; exact List.mem_singleton_self x)).e) (fun N sc e h => by cases e <;> first | rfl | cases h) fun _ _ _ _ => rfl
  | .isi a t => okP (ok_isi (okA a).e) (fun N sc e h => by cases e <;> first | rfl | cases h) fun _ _ _ _ => rfl
  | .comp own t it c e => okP (ok_comp (okA it).i (fun y ey => ((okO c).m y ey).t) (okA e).e) (fun N sc e h => by cases e <;> first | rfl | cases h) fun _ _ _ _ => rfl
  | .wld i => okI oi_wld fun _ _ _ => rfl
  | .wlx a => okI (oi_wlx (okA a).e) fun _ _ _ => rfl
  | .wlk a => okI (oi_wlk (okA a).e) fun _ _ _ => rfl
  | .rng1 a => okI (oi_rng1 (okA a).e) fun _ _ _ => rfl
  | .rng2 a b => okI (oi_rng2 (okA a).e (okA b).e) fun _ _ _ => rfl
  | .rng3 a b c => okI (oi_rng3 (okA a).e (okA b).e (okA c).e) fun _ _ _ => rfl
  | .enum a => okI (oi_enum (okA a).e) fun _ _ _ => rfl
  | .zip a b => okI (oi_zip (okA a).e (okA b).e) fun _ _ _ => rfl
termination_by structural x => x
theorem okL : ∀ xs : List Ex, OKs Γ nm cs xs
  | [] => ⟨oks_nil, fun x h => by cases h⟩
  | x :: xs => okl_cons (okA x) (okL xs)
termination_by structural xs => xs
theorem okO : ∀ x : Option Ex, OKo Γ nm cs x
  | none => ⟨oko_none, fun y h => by cases h⟩
  | some x => okO_some (okA x)
termination_by structural x => x
end
end
end Z

/-! ZsO: statements as a whole. -/
namespace Z
open PySem PyProof.Rows L2

/-! ### the order of the stores -/
def swNms (sc : Scope) (ts : List Expr) : List Str := ts.filterMap fun
  | .Name id pos => if sc.names.lookup id == some .local && pos.line == (ts.head?.map (·.pos.line)).getD 0 then some id else none
  | _ => none
def isStarX : Expr → Bool
  | .Starred .. => true
  | _ => false
/-- the stores go in their order -/
def swNo (sc : Scope) (ts vs : List Expr) : Bool :=
  (!(ts.length == 2 || ts.length == 3) || vs.length != ts.length) || vs.any isStarX || ((swNms sc ts).length != ts.length || (swNms sc ts).eraseDups.length != (swNms sc ts).length) || vs.all (foldedForSure 8)
def swYes (sc : Scope) (ts vs : List Expr) : Bool :=
  !(!(ts.length == 2 || ts.length == 3) || vs.length != ts.length) && !vs.any isStarX && !((swNms sc ts).length != ts.length || (swNms sc ts).eraseDups.length != (swNms sc ts).length) && !vs.all (foldedForSure 8) && !vs.all (constantsAlone 8)
section
variable {env : PySem.Env} {ts vs : List Expr} {k k2 : Nat} {p p2 : Pos}
theorem sw_no (hk : env.blockKind = .function) (h : swNo env.scope ts vs = true) : swappedStores [.Tuple ts k p] (.Tuple vs k2 p2) env = pure none := by
  unfold swappedStores
  simp only [hk, bne_self_eq_false, Bool.or_false]
  unfold swNo at h
  simp only [Bool.or_eq_true] at h
  split
  · rfl
  · rename_i n1
    split
    · rfl
    · rename_i n2
      split
      · rfl
      · rename_i n3
        split
        · rfl
        · rename_i n4
          exfalso
          rcases h with ((h | h) | h) | h
          · exact n1 (by rw [Bool.or_eq_true]; exact h)
          · exact n2 h
          · exact n3 (by show ((swNms env.scope ts).length != ts.length || (swNms env.scope ts).eraseDups.length != (swNms env.scope ts).length) = true; rw [Bool.or_eq_true]; exact h)
          · exact n4 h
theorem sw_yes (hk : env.blockKind = .function) (h : swYes env.scope ts vs = true) : swappedStores [.Tuple ts k p] (.Tuple vs k2 p2) env = pure (some (swNms env.scope ts)) := by
  unfold swappedStores
  simp only [hk, bne_self_eq_false, Bool.or_false]
  unfold swYes at h
  simp only [Bool.and_eq_true, Bool.not_eq_true'] at h
  obtain ⟨⟨⟨⟨h1, h2⟩, h3⟩, h4⟩, h5⟩ := h
  rw [if_neg (by rw [h1]; decide)]
  rw [if_neg (by show ¬ vs.any isStarX = true; rw [h2]; decide)]
  rw [if_neg (by show ¬ ((swNms env.scope ts).length != ts.length || (swNms env.scope ts).eraseDups.length != (swNms env.scope ts).length) = true; rw [h3]; decide)]
  rw [if_neg (by rw [h4]; decide), if_neg (by rw [h5]; decide)]
  rfl
end

/-! ### looks -/
def nTup : Expr → Bool
  | .Tuple .. => false
  | _ => true
/-- the swap of a comprehension's store and its end -/
def swLc (sc : Scope) (tg a : Expr) : Bool := match tg, a with
  | .Name y py, .ListComp _ _ scope pos => lkB sc y .local && py.line == pos.line && !(scope.names.any fun (n, k) => n == y && (k == .local || k == .cell))
  | _, _ => false
def stNo (sc : Scope) (tg a : Expr) : Bool := match tg, a with
  | .Tuple ts _ _, .Tuple vs _ _ => swNo sc ts vs
  | .Tuple _ _ _, a => nTup a
  | .Name _ _, _ => true
  | _, _ => false
/-- a comprehension stored in a cell: no swap -/
def clLc (sc : Scope) (tg a : Expr) : Bool := match tg, a with
  | .Name y _, .ListComp _ _ _ _ => lkB sc y .cell
  | _, _ => false
/-- raise C('text') -/
def raiB (nm : List Cn) (sc : Scope) (c : Str) : Stmt → Bool
  | .Raise (some (.Call (.Name x _) [.Constant (.str _) _ _] [] _)) none _ => x == c && glB sc x && nm.any fun q => decide (q = .er c)
  | _ => false
/-- raise C(e) -/
def rafE (nm : List Cn) (sc : Scope) (c f : Str) : Stmt → Option Expr
  | .Raise (some (.Call (.Name x _) [a] [] _)) none _ => if (x == c && glB sc x && nStar a && nm.any fun q => decide (q = .ei c f)) = true then some a else none
  | _ => none
theorem rafE_inv {nm : List Cn} {sc : Scope} {c f : Str} {t : Stmt} {a : Expr} (h : rafE nm sc c f t = some a) : ∃ p p3 pos, t = .Raise (some (.Call (.Name c p) [a] [] p3)) none pos ∧ glB sc c = true ∧ nStar a = true ∧ .ei c f ∈ nm := by
  unfold rafE at h
  split at h
  · split at h
    · rename_i g
      cases h
      simp only [Bool.and_eq_true] at g
      obtain rfl := beq_str g.1.1.1
      obtain ⟨q, hq, e⟩ := List.any_eq_true.mp g.2
      have e := of_decide_eq_true e
      subst e
      exact ⟨_, _, _, rfl, g.1.1.2, g.1.2, hq⟩
    · cases h
  · cases h
/-- try: body except C as n: m = n; its body -/
def trykF (nm : List Cn) (N : List Str) (sc : Scope) (es : List Str) (c : Str) (i j : Nat) : Stmt → Option (List Stmt)
  | .Try body [.ExceptHandler (some (.Name x _)) (some n) [.Assign [.Name m _] (.Name n' _) _] _] [] [] _ => if (x == c && glB sc x && decide (N[i]? = some n) && decide (N[j]? = some m) && n' == n && decide (i ≠ j) && lkB sc n .local && lkB sc m .local &&
      !(n == ("__debug__" : Str)) && !(n == ("__classdict__" : Str)) && nm.any (fun q => match q with | .xs rs ts => es.all (fun a => rs.contains a) && !rs.isEmpty && ts.contains c | _ => false)) = true then some body else none
  | _ => none
theorem raiB_inv {nm : List Cn} {sc : Scope} {c : Str} {t : Stmt} (h : raiB nm sc c t = true) : ∃ p m j p2 p3 pos, t = .Raise (some (.Call (.Name c p) [.Constant (.str m) j p2] [] p3)) none pos ∧ glB sc c = true ∧ .er c ∈ nm := by
  unfold raiB at h
  split at h
  · simp only [Bool.and_eq_true] at h
    obtain rfl := beq_str h.1.1
    obtain ⟨q, hq, e⟩ := List.any_eq_true.mp h.2
    have e := of_decide_eq_true e
    subst e
    exact ⟨_, _, _, _, _, _, rfl, h.1.2, hq⟩
  · cases h
theorem trykF_inv {nm : List Cn} {N : List Str} {sc : Scope} {es : List Str} {c : Str} {i j : Nat} {t : Stmt} {body : List Stmt} (h : trykF nm N sc es c i j t = some body) :
    ∃ np n m p1 p2 p3 pos' pos rs ts, t = .Try body [.ExceptHandler (some (.Name c np)) (some n) [.Assign [.Name m p1] (.Name n p2) p3] pos'] [] [] pos ∧ glB sc c = true ∧ N[i]? = some n ∧ N[j]? = some m ∧ i ≠ j ∧ lkB sc n .local = true ∧ lkB sc m .local = true ∧
      (n == ("__debug__" : Str)) = false ∧ (n == ("__classdict__" : Str)) = false ∧ .xs rs ts ∈ nm ∧ (∀ a ∈ es, a ∈ rs) ∧ c ∈ ts ∧ rs ≠ [] := by
  unfold trykF at h
  split at h
  · split at h
    · rename_i g
      cases h
      simp only [Bool.and_eq_true] at g
      obtain ⟨⟨⟨⟨⟨⟨⟨⟨⟨⟨h1, h2⟩, h3⟩, h4⟩, h5⟩, h6⟩, h7⟩, h8⟩, h9⟩, h10⟩, h11⟩ := g
      obtain rfl := beq_str h1
      obtain rfl := beq_str h5
      obtain ⟨q, hq, e⟩ := List.any_eq_true.mp h11
      cases q with
      | xs rs ts =>
        have e : (es.all (fun a => rs.contains a) && !rs.isEmpty && ts.contains _) = true := e
        simp only [Bool.and_eq_true] at e
        exact ⟨_, _, _, _, _, _, _, _, rs, ts, rfl, h2, of_decide_eq_true h3, of_decide_eq_true h4, of_decide_eq_true h6, h7, h8, by simpa using h9, by simpa using h10, hq, fun a ha => by simpa using List.all_eq_true.mp e.1.1 a ha, by simpa using e.2, fun z => by rw [z] at e; exact absurd e.1.2 (by simp)⟩
      | _ => cases e
    · cases h
  · cases h
def isCmp : Ex → Bool
  | .comp _ _ _ _ _ => true
  | _ => false
def asgOk (sc : Scope) (tg a : Expr) : Bool := (nComp a && stNo sc tg a)
mutual
def mtS (nm : List Cn) (cs : List (Str × PV)) (N : List Str) (sc : Scope) : Sm → Stmt → Bool
  | .set t e, .Assign [tg] a _ => mtT N (tkD sc) t tg && mtE nm cs N sc e a && (asgOk sc tg a || (swLc sc tg a && isCmp e) || clLc sc tg a)
  | .par i j x y, .Assign [.Tuple [.Name n px, .Name n2 py] kt pt] (.Tuple [a, b] _ _) _ => decide (N[i]? = some n) && decide (N[j]? = some n2) && decide (i ≠ j) && lkB sc n .local && lkB sc n2 .local && nStar a && nStar b && swYes sc [.Name n px, .Name n2 py] [a, b] && decide (swNms sc [.Name n px, .Name n2 py] = [n, n2]) && mtE nm cs N sc x a && mtE nm cs N sc y b
  | .par3 i j l x y z, .Assign [.Tuple [.Name n px, .Name n2 py, .Name n3 pz] kt pt] (.Tuple [a, b, c] _ _) _ => decide (N[i]? = some n) && decide (N[j]? = some n2) && decide (N[l]? = some n3) && decide (i ≠ j ∧ i ≠ l ∧ j ≠ l) && lkB sc n .local && lkB sc n2 .local && lkB sc n3 .local && nStar a && nStar b && nStar c && swYes sc [.Name n px, .Name n2 py, .Name n3 pz] [a, b, c] && decide (swNms sc [.Name n px, .Name n2 py, .Name n3 pz] = [n, n2, n3]) && mtE nm cs N sc x a && mtE nm cs N sc y b && mtE nm cs N sc z c
  | .sto o i e, .Assign [.Subscript a b _] c _ => mtE nm cs N sc o a && mtE nm cs N sc i b && mtE nm cs N sc e c
  | .stf x c f z, .Assign [.Attribute (.Name y p) g _] v _ => g == f && nm.any (fun q => match q with | .cl c' fs => c' == c && fs.contains f | _ => false) && mtE nm cs N sc x (.Name y p) && mtE nm cs N sc z v
  | .aug i o e, .AugAssign (.Name x _) p a _ => decide (o = p) && (decide (o = .Add) || decide (o = .Sub)) && decide (N[i]? = some x) && tkD sc x && mtE nm cs N sc e a
  | .exp e, .Expr a _ => nComp a && mtE nm cs N sc e a
  | .ret e, .Return (some a) _ => mtE nm cs N sc e a
  | .retN, .Return none _ => true
  | .ife c x y, .If t a b _ => mtE nm cs N sc c t && mtSs nm cs N sc x a && mtSs nm cs N sc y b
  | .whl c x, .While t a [] _ => mtE nm cs N sc c t && mtSs nm cs N sc x a
  | .for_ t it x, .For tg ir a [] _ => mtT N (tkD sc) t tg && mtI nm cs N sc it tg ir && nSet ir && mtSs nm cs N sc x a
  | .rai c, t => raiB nm sc c t
  | .raf c f e, t => (match rafE nm sc c f t with | some a => mtE nm cs N sc e a | none => false)
  | .tryk b es c i j, t => (match trykF nm N sc es c i j t with | some body => mtSs nm cs N sc b body | none => false)
  | .lcs i x, t => mtS nm cs N sc x t
  | .brk, .Break _ => true
  | .cnt, .Continue _ => true
  | .pss, .Pass _ => true
  | .doc, .Expr (.Constant (.str _) _ _) _ => true
  | .nev, _ => true
  | _, _ => false
termination_by structural s => s
def mtSs (nm : List Cn) (cs : List (Str × PV)) (N : List Str) (sc : Scope) : List Sm → List Stmt → Bool
  | [], [] => true
  | s :: ss, t :: ts => mtS nm cs N sc s t && mtSs nm cs N sc ss ts
  | _, _ => false
termination_by structural s => s
end

structure Gods (X : Cx) (W : WX) (nm : List Cn) (cs : List (Str × PV)) (Γ : List Spec) : Prop extends Good X W nm cs Γ where
  po : PassesOwn (model X.prog X.w) X.A X.env X.xe
  all : ∀ x, X.fn x = true
  kind : X.env.scope.kind = .function
  hs : X.stack = X.env :: X.outer
  hf : X.env.frame = some X.env.locals
  hex : X.ex = []
def SS (Γ : List Spec) (nm : List Cn) (cs : List (Str × PV)) (s : Sm) : Prop := ∀ (X : Cx) (W : WX) (t : Stmt), Gods X W nm cs Γ → mtS nm cs X.N X.env.scope s t = true → PS X t (LS X W (wS Γ s))
def SSs (Γ : List Spec) (nm : List Cn) (cs : List (Str × PV)) (s : List Sm) : Prop := ∀ (X : Cx) (W : WX) (t : List Stmt), Gods X W nm cs Γ → mtSs nm cs X.N X.env.scope s t = true → PSs X t (LS X W (wSs Γ s))
section
variable {X : Cx} {W : WX} {nm : List Cn} {cs : List (Str × PV)} {Γ : List Spec}
theorem Gods.bk (G : Gods X W nm cs Γ) : X.env.blockKind = .function := by unfold Env.blockKind; rw [G.kind]; rfl
theorem stNo_ok (G : Gods X W nm cs Γ) {tg a : Expr} (h : stNo X.env.scope tg a = true) : swappedStores [tg] a X.env = pure none ∧ (assignEach [tg] X.env).map (·.2) = [assign tg X.env] := by
  match tg, a, h with
  | .Tuple ts k p, .Tuple vs k2 p2, h => exact ⟨sw_no G.bk h, rfl⟩
  | .Name y p, _, _ => exact ⟨rfl, rfl⟩
  | .Tuple ts k p, .BoolOp .., h => exact ⟨rfl, rfl⟩
  | .Tuple ts k p, .NamedExpr .., h => exact ⟨rfl, rfl⟩
  | .Tuple ts k p, .BinOp .., h => exact ⟨rfl, rfl⟩
  | .Tuple ts k p, .UnaryOp .., h => exact ⟨rfl, rfl⟩
  | .Tuple ts k p, .Lambda .., h => exact ⟨rfl, rfl⟩
  | .Tuple ts k p, .IfExp .., h => exact ⟨rfl, rfl⟩
  | .Tuple ts k p, .Dict .., h => exact ⟨rfl, rfl⟩
  | .Tuple ts k p, .Set .., h => exact ⟨rfl, rfl⟩
  | .Tuple ts k p, .ListComp .., h => exact ⟨rfl, rfl⟩
  | .Tuple ts k p, .SetComp .., h => exact ⟨rfl, rfl⟩
  | .Tuple ts k p, .DictComp .., h => exact ⟨rfl, rfl⟩
  | .Tuple ts k p, .GeneratorExp .., h => exact ⟨rfl, rfl⟩
  | .Tuple ts k p, .Await .., h => exact ⟨rfl, rfl⟩
  | .Tuple ts k p, .Yield .., h => exact ⟨rfl, rfl⟩
  | .Tuple ts k p, .YieldFrom .., h => exact ⟨rfl, rfl⟩
  | .Tuple ts k p, .Compare .., h => exact ⟨rfl, rfl⟩
  | .Tuple ts k p, .Call .., h => exact ⟨rfl, rfl⟩
  | .Tuple ts k p, .FormattedValue .., h => exact ⟨rfl, rfl⟩
  | .Tuple ts k p, .JoinedStr .., h => exact ⟨rfl, rfl⟩
  | .Tuple ts k p, .Constant .., h => exact ⟨rfl, rfl⟩
  | .Tuple ts k p, .Attribute .., h => exact ⟨rfl, rfl⟩
  | .Tuple ts k p, .Subscript .., h => exact ⟨rfl, rfl⟩
  | .Tuple ts k p, .Starred .., h => exact ⟨rfl, rfl⟩
  | .Tuple ts k p, .Name .., h => exact ⟨rfl, rfl⟩
  | .Tuple ts k p, .List .., h => exact ⟨rfl, rfl⟩
  | .Tuple ts k p, .Slice .., h => exact ⟨rfl, rfl⟩
theorem set_comp {own : List Nat} {t : Tg} {c : Option Ex} {x y : Ex} {i : Nat} {nme : Str} {py pos spos : Pos} {el : Expr} {gens : List Comprehension} {scope : Scope} (G' : Gods X W nm cs Γ) (hyi : X.N[i]? = some nme) (hyl : X.env.scope.names.lookup nme = some .local)
    (hsw : swapsWith (.ListComp el gens scope pos) (some (.Name nme py)) spos.line X.env = pure true) (h : mtE nm cs X.N X.env.scope (.comp own t x c y) (.ListComp el gens scope pos) = true) :
    PS X (.Assign [.Name nme py] (.ListComp el gens scope pos) spos) (LS X W (wS Γ (.set (.nm i) (.comp own t x c y)))) := by
    have G := G'.toGood
    have hi : SI Γ nm cs x := (okA x).i
    have hc : SC Γ nm cs c := fun z ez => ((okO c).m z ez).t
    have he : SE Γ nm cs y := (okA y).e
    have close : ∀ (D : Ends) (σ : L2.St) (H : Hp), LS X W (wS Γ (.set (.nm i) (.comp own t x c y))) D σ H → LE X W (wE Γ (.comp own t x c y)) σ H fun v H1 => gName i v σ H1 D.nx := by
      intro D σ H ⟨ρ, σz, h, Dd, s, k, w⟩
      refine ⟨ρ, σz, h, fun r h1 => Dd.nx (σz.set i (some r)) h1, _, s, fun r h' ρ' H' v n hr rp w' => ?_, k.kx s, w⟩
      exact k.nx ρ' (σz.set i (some r)) h' (σ.set i (some v)) H' n ((s.nx n hr).set i rp) w'
    obtain ⟨tg, ir, ifs, rfl⟩ : ∃ tg ir ifs, gens = [⟨tg, ir, ifs, 0⟩] := by
      match gens, h with
      | [⟨tg, ir, ifs, 0⟩], _ => exact ⟨tg, ir, ifs, rfl⟩
    · have h : (L2.blkC X.N X.env.scope scope (ownP X.N own) && decide ((ownP X.N own).map (·.2) = own) && (slotsT t).all (fun i => own.contains i) && mtT X.N (tkB scope X.env.scope) t tg && mtI nm cs X.N X.env.scope x tg ir &&
        mtC nm cs X.N (L2.relS scope X.env.scope) c ifs && mtE nm cs X.N (L2.relS scope X.env.scope) y el && nSet ir) = true := h
      simp only [Bool.and_eq_true] at h
      obtain ⟨⟨⟨⟨⟨⟨⟨h1, h2⟩, h3⟩, h4⟩, h5⟩, h6⟩, h7⟩, h8⟩ := h
      have e2 := of_decide_eq_true h2
      have sub : ∀ j ∈ slotsT t, j ∈ own := fun j hj => by
        have q := List.all_eq_true.mp h3 j hj
        simpa using q
      have pg : ∀ (s : Shared) (H : Hp) (C : Addr) (cl : List (Str × Addr)) (fp : List Addr), PG (X.blk s H scope (compEnvC scope cl C X.env) fp) tg (LG X t) := fun s H C cl fp =>
        pg_imp (sG (X := X.blk s H scope (compEnvC scope cl C X.env) fp) G.calm G.nd (tkB_ok s H scope C cl fp) t tg h4) fun v σ H Q q => q.blk
      have pe : ∀ (s : Shared) (H : Hp) (C : Addr) (cl : List (Str × Addr)) (fp : List Addr), PE (X.blk s H scope (compEnvC scope cl C X.env) fp) el (LE X (fun _ _ _ _ => False) (wE Γ y)) := fun s H C cl fp =>
        pe_imp (he (X.blk s H scope (compEnvC scope cl C X.env) fp) _ el (G.blk s H scope _ fp) h7) fun σ H Q q => q.blk
      clear h
      match c, ifs with
      | none, [] =>
        refine ps_imp (ps_setLc G.calm G.nd hyi hyl hsw (hi X W tg ir G h5) (blkOk_by h1) pg (fun _ _ _ _ _ => pts_nil) pe (fun v => folded_of h8 _ v)) fun D σ H q => ?_
        rw [e2]
        have q := close D σ H q
        refine le_comp (it := x) (co := none) sub (fun σ H Q q => ?_) (fun σ H Q q => q) σ H _ q
        obtain ⟨ρ, σz, h, F, E, sr, kq, kx, w⟩ := q
        exact kq true h ρ H .refl sr.hr w
      | some c, [f] =>
        have pt : ∀ (s : Shared) (H : Hp) (C : Addr) (cl : List (Str × Addr)) (fp : List Addr), PT (X.blk s H scope (compEnvC scope cl C X.env) fp) f (LT X (fun _ _ _ _ => False) (wT Γ c)) := fun s H C cl fp =>
          pt_imp (hc c rfl (X.blk s H scope (compEnvC scope cl C X.env) fp) _ f (G.blk s H scope _ fp) h6) fun σ H Q q => q.blk
        refine ps_imp (ps_setLc G.calm G.nd hyi hyl hsw (hi X W tg ir G h5) (blkOk_by h1) pg (fun s H C cl fp => pts_one (pt s H C cl fp)) pe (fun v => folded_of h8 _ v)) fun D σ H q => ?_
        rw [e2]
        have q := close D σ H q
        refine le_comp (it := x) (co := some c) sub (fun σ H Q q => ?_) (fun σ H Q q => q) σ H _ q
        obtain ⟨ρ, σz, h, F, E, sr, kq, kx, w⟩ := q
        exact ⟨ρ, σz, h, F, noX, sr, kq, KXok.no, w⟩
      | none, _ :: _ => cases h6
      | some _, [] => cases h6
      | some _, _ :: _ :: _ => cases h6
theorem sw_cell {env : PySem.Env} {y : Str} {py lp : Pos} {el : Expr} {gens : List Comprehension} {scope : Scope} {l : Nat} (h : env.scope.names.lookup y = some .cell) : swapsWithSole [.Name y py] (.ListComp el gens scope lp) l env = pure false := by
  have k : (env.kindOf y == some NameKind.local) = false := by
    unfold Env.kindOf
    rw [h]; rfl
  show (pure (env.blockKind == .function && env.kindOf y == some .local && py.line == lp.line && !(scope.names.any fun (n, k) => n == y && (k == .local || k == .cell))) : Sem Bool) = pure false
  rw [k, Bool.and_false]
  rfl
theorem os_set {t : Tg} {e : Ex} : SS Γ nm cs (.set t e) := fun X W st G h => by
  cases st with
  | Assign tgs a pos =>
    match tgs, h with
    | [tg], h =>
      have h : (mtT X.N (tkD X.env.scope) t tg && mtE nm cs X.N X.env.scope e a && (asgOk X.env.scope tg a || (swLc X.env.scope tg a && isCmp e) || clLc X.env.scope tg a)) = true := h
      simp only [Bool.and_eq_true] at h
      obtain ⟨⟨h1, h2⟩, h3⟩ := h
      have pg := sG G.calm G.nd (tkD_ok G.all) t tg h1
      cases e1 : asgOk X.env.scope tg a with
      | true =>
        unfold asgOk at e1
        rw [Bool.and_eq_true] at e1
        obtain ⟨q1, q2⟩ := stNo_ok G e1.2
        exact zs_set ((okA e).e X W a G.toGood h2) pg (swap_no e1.1 _ _ _) q1 q2
      | false =>
        rw [e1, Bool.false_or] at h3
        cases e4 : clLc X.env.scope tg a with
        | true =>
          match tg, a, e4, pg with
          | .Name y py, .ListComp el gens scope lp, e4, pg =>
            have e4 : X.env.scope.names.lookup y = some .cell := of_decide_eq_true e4
            exact zs_set ((okA e).e X W _ G.toGood h2) pg (sw_cell e4) rfl rfl
        | false =>
        rw [e4, Bool.or_false, Bool.and_eq_true] at h3
        obtain ⟨h3, hcmp⟩ := h3
        match tg, a, h3 with
        | .Name y py, .ListComp el gens scope lp, h3 =>
          have h3 : (lkB X.env.scope y .local && py.line == lp.line && !(scope.names.any fun (n, k) => n == y && (k == .local || k == .cell))) = true := h3
          simp only [Bool.and_eq_true, Bool.not_eq_true'] at h3
          obtain ⟨⟨h4, h5⟩, h6⟩ := h3
          have yl : X.env.scope.names.lookup y = some .local := of_decide_eq_true h4
          have sw := sw_true (elt := el) (gs := gens) (l := pos.line) G.kind yl h5 h6
          cases t with
          | tp _ => cases h1
          | nm i =>
            have h1 : (decide (X.N[i]? = some y) && tkD X.env.scope y) = true := h1
            rw [Bool.and_eq_true] at h1
            cases e with
            | comp own t x c z => exact set_comp G (of_decide_eq_true h1.1) yl sw h2
            | _ => cases hcmp
  | _ => cases h
theorem os_par {i j : Nat} {x y : Ex} : SS Γ nm cs (.par i j x y) := fun X W st G h => by
  cases st with
  | Assign tgs v pos =>
    match tgs, v, h with
    | [.Tuple [.Name n px, .Name n2 py] kt pt], .Tuple [a, b] k2 pt2, h =>
      have h : (decide (X.N[i]? = some n) && decide (X.N[j]? = some n2) && decide (i ≠ j) && lkB X.env.scope n .local && lkB X.env.scope n2 .local && nStar a && nStar b && swYes X.env.scope [.Name n px, .Name n2 py] [a, b] && decide (swNms X.env.scope [.Name n px, .Name n2 py] = [n, n2]) && mtE nm cs X.N X.env.scope x a && mtE nm cs X.N X.env.scope y b) = true := h
      simp only [Bool.and_eq_true] at h
      obtain ⟨⟨⟨⟨⟨⟨⟨⟨⟨⟨h1, h2⟩, h3⟩, h4⟩, h5⟩, h6⟩, h7⟩, h8⟩, h9⟩, h10⟩, h11⟩ := h
      have sw := sw_yes (k := kt) (p := pt) (k2 := k2) (p2 := pt2) G.bk h8
      rw [of_decide_eq_true h9] at sw
      exact zs_par G.calm G.nd (of_decide_eq_true h1) (of_decide_eq_true h2) (of_decide_eq_true h3) (of_decide_eq_true h4) (of_decide_eq_true h5) ((okA x).e X W a G.toGood h10) ((okA y).e X W b G.toGood h11) (star_of h6 _ _) (star_of h7 _ _) sw
  | _ => cases h
theorem os_par3 {i j l : Nat} {x y z : Ex} : SS Γ nm cs (.par3 i j l x y z) := fun X W st G h => by
  cases st with
  | Assign tgs v pos =>
    match tgs, v, h with
    | [.Tuple [.Name n px, .Name n2 py, .Name n3 pz] kt pt], .Tuple [a, b, c] k2 pt2, h =>
      have h : (decide (X.N[i]? = some n) && decide (X.N[j]? = some n2) && decide (X.N[l]? = some n3) && decide (i ≠ j ∧ i ≠ l ∧ j ≠ l) && lkB X.env.scope n .local && lkB X.env.scope n2 .local && lkB X.env.scope n3 .local && nStar a && nStar b && nStar c && swYes X.env.scope [.Name n px, .Name n2 py, .Name n3 pz] [a, b, c] && decide (swNms X.env.scope [.Name n px, .Name n2 py, .Name n3 pz] = [n, n2, n3]) && mtE nm cs X.N X.env.scope x a && mtE nm cs X.N X.env.scope y b && mtE nm cs X.N X.env.scope z c) = true := h
      simp only [Bool.and_eq_true] at h
      obtain ⟨⟨⟨⟨⟨⟨⟨⟨⟨⟨⟨⟨⟨⟨h1, h2⟩, h3⟩, h4⟩, h5⟩, h6⟩, h7⟩, s1⟩, s2⟩, s3⟩, h8⟩, h9⟩, e1⟩, e2⟩, e3⟩ := h
      obtain ⟨d1, d2, d3⟩ := of_decide_eq_true h4
      have sw := sw_yes (k := kt) (p := pt) (k2 := k2) (p2 := pt2) G.bk h8
      rw [of_decide_eq_true h9] at sw
      exact zs_par3 G.calm G.nd (of_decide_eq_true h1) (of_decide_eq_true h2) (of_decide_eq_true h3) d1 d2 d3 (of_decide_eq_true h5) (of_decide_eq_true h6) (of_decide_eq_true h7) ((okA x).e X W a G.toGood e1) ((okA y).e X W b G.toGood e2) ((okA z).e X W c G.toGood e3) (star_of s1 _ _) (star_of s2 _ _) (star_of s3 _ _) sw
  | _ => cases h
theorem os_sto {x y z : Ex} : SS Γ nm cs (.sto x y z) := fun X W st G h => by
  cases st with
  | Assign tgs v pos =>
    match tgs, h with
    | [.Subscript a b p2], h =>
      have h : (mtE nm cs X.N X.env.scope x a && mtE nm cs X.N X.env.scope y b && mtE nm cs X.N X.env.scope z v) = true := h
      simp only [Bool.and_eq_true] at h
      exact zs_sto (by have := G.un; omega) ((okA z).e X W v G.toGood h.2) ((okA x).e X W a G.toGood h.1.1) ((okA y).e X W b G.toGood h.1.2) (by cases v <;> rfl)
  | _ => cases h
theorem os_stf {x z : Ex} {c f : Str} : SS Γ nm cs (.stf x c f z) := fun X W st G h => by
  cases st with
  | Assign tgs v pos =>
    match tgs, h with
    | [.Attribute (.Name y p) g p2], h =>
      have h : (g == f && nm.any (fun q => match q with | .cl c' fs => c' == c && fs.contains f | _ => false) && mtE nm cs X.N X.env.scope x (.Name y p) && mtE nm cs X.N X.env.scope z v) = true := h
      simp only [Bool.and_eq_true] at h
      obtain ⟨⟨⟨h1, h2⟩, h3⟩, h4⟩ := h
      obtain rfl : g = f := by simpa using h1
      obtain ⟨i, fl, e, hf⟩ := any_cl h2
      obtain ⟨S, _, cr⟩ := G.fn i _ e
      exact zs_stf cr hf ((okA z).e X W v G.toGood h4) ((okA x).e X W _ G.toGood h3) (by cases v <;> rfl)
  | _ => cases h
theorem os_aug {i : Nat} {o : Operator} {x : Ex} : SS Γ nm cs (.aug i o x) := fun X W st G h => by
  cases st with
  | AugAssign tg p a pos =>
    cases tg with
    | Name n np =>
      have h : (decide (o = p) && (decide (o = .Add) || decide (o = .Sub)) && decide (X.N[i]? = some n) && tkD X.env.scope n && mtE nm cs X.N X.env.scope x a) = true := h
      simp only [Bool.and_eq_true] at h
      obtain ⟨⟨⟨⟨h1, h2⟩, h3⟩, h4⟩, h5⟩ := h
      obtain rfl := of_decide_eq_true h1
      obtain ⟨t1, t2⟩ := tkD_ok G.all n h4
      refine zs_aug ?_ G.nd (of_decide_eq_true h3) t1 t2 ((okA x).e X W a G.toGood h5)
      rw [Bool.or_eq_true] at h2
      exact h2.imp of_decide_eq_true of_decide_eq_true
    | _ => cases h
  | _ => cases h
theorem ok_rai {c : Str} {t : Stmt} (G : Gods X W nm cs Γ) (h : raiB nm X.env.scope c t = true) : PS X t (LS X W (wS Γ (.rai c))) := by
  obtain ⟨p, m, j, p2, p3, pos, rfl, g, hq⟩ := raiB_inv h
  obtain ⟨g1, g2⟩ := gl_of g
  obtain ⟨k, hk⟩ := List.mem_iff_getElem?.mp hq
  obtain ⟨S, _, er⟩ := G.fn k _ hk
  exact zs_rai er G.calm G.tk g1 g2
theorem ok_raf {c f : Str} {x : Ex} {t : Stmt} (hx : SE Γ nm cs x) (G : Gods X W nm cs Γ) (h : (match rafE nm X.env.scope c f t with | some a => mtE nm cs X.N X.env.scope x a | none => false) = true) : PS X t (LS X W (wS Γ (.raf c f x))) := by
  cases q : rafE nm X.env.scope c f t with
  | none => rw [q] at h; cases h
  | some a =>
    rw [q] at h
    obtain ⟨p, p3, pos, rfl, g, st, hq⟩ := rafE_inv q
    obtain ⟨g1, g2⟩ := gl_of g
    obtain ⟨k, hk⟩ := List.mem_iff_getElem?.mp hq
    obtain ⟨S, _, er⟩ := G.fn k _ hk
    exact zs_raf er G.calm G.tk g1 g2 (hx X W a G.toGood h) fun r => star_of st r X.env
theorem sr_tr {X : Cx} {pn : List (Addr × Obj)} {xe : Value → Shared → Prop} {ρ : List Addr} {σz : Env} {h : Hep} {σ : L2.St} {H : Hp} (s : SR X ρ σz h σ H) : SR (X.tr pn xe) ρ σz h σ H := ⟨s.hr, s.len, s.sl⟩
theorem sr_un {X : Cx} {pn : List (Addr × Obj)} {xe : Value → Shared → Prop} {ρ : List Addr} {σz : Env} {h : Hep} {σ : L2.St} {H : Hp} (s : SR (X.tr pn xe) ρ σz h σ H) : SR X ρ σz h σ H := ⟨s.hr, s.len, s.sl⟩
theorem ls_tr {X : Cx} {pn : List (Addr × Obj)} {xe : Value → Shared → Prop} {W : WX} {w : Env → Hep → Dz → Prop} (D : Ends) (σ : L2.St) (H : Hp) (q : LS X W w D σ H) : LS (X.tr pn xe) W w D σ H := by
  obtain ⟨ρ, σz, h, Dd, s, k, w⟩ := q
  exact ⟨ρ, σz, h, Dd, sr_tr s, ⟨fun a b c d e n s' => k.nx a b c d e n (sr_un s'), fun a b c d e n s' => k.bk a b c d e n (sr_un s'), fun a b c d e n s' => k.ct a b c d e n (sr_un s'), k.rt, fun a b c d e f g i n s' => k.ex a b c d e f g i n (sr_un s')⟩, w⟩
theorem ok_tryk {b : List Sm} {es : List Str} {c : Str} {i j : Nat} {t : Stmt} (hb : SSs Γ nm cs b) (G : Gods X W nm cs Γ) (h : (match trykF nm X.N X.env.scope es c i j t with | some body => mtSs nm cs X.N X.env.scope b body | none => false) = true) : PS X t (LS X W (wS Γ (.tryk b es c i j))) := by
  cases q : trykF nm X.N X.env.scope es c i j t with
  | none => rw [q] at h; cases h
  | some body =>
    rw [q] at h
    obtain ⟨np, n, m, p1, p2, p3, pos', pos, rs, ts, rfl, h2, h3, h4, h6, h7, h8, h9, h10, hq, hes, hct, hrs⟩ := trykF_inv q
    obtain ⟨g1, g2⟩ := gl_of h2
    obtain ⟨k, hk⟩ := List.mem_iff_getElem?.mp hq
    obtain ⟨S, _, xr⟩ := G.fn k _ hk
    refine zs_tryk xr hes hct G.hs G.hf G.hex G.nd h3 h4 h6 (of_decide_eq_true h7) (of_decide_eq_true h8) g1 g2 h9 h10 G.tk hrs fun W' pn xe tk' po' => ?_
    exact pss_imp (hb (X.tr pn xe) W' body { calm := G.calm, nd := G.nd, un := G.un, tk := tk', bl := G.bl, fn := fun i x e => G.fn i x e, cn := G.cn, po := po', all := G.all, kind := G.kind, hs := G.hs, hf := G.hf, hex := G.hex } h) ls_tr
mutual
theorem okS : ∀ s : Sm, SS Γ nm cs s
  | .set t e => os_set
  | .par i j a b => os_par
  | .par3 i j l a b c => os_par3
  | .sto o i e => os_sto
  | .stf o c f e => os_stf
  | .aug i o e => os_aug
  | .exp e => fun X W st G h => by
    cases st with
    | Expr a pos =>
      have h : (nComp a && mtE nm cs X.N X.env.scope e a) = true := h
      rw [Bool.and_eq_true] at h
      exact zs_exp ((okA e).e X W a G.toGood h.2) (swap_no h.1 _ _ _)
    | _ => cases h
  | .lcs i s => fun X W st G h => zs_lcs (okS s X _ st { toGood := G.toGood.none, po := G.po, all := G.all, kind := G.kind, hs := G.hs, hf := G.hf, hex := G.hex } h)
  | .ret e => fun X W st G h => by
    cases st with
    | Return a pos =>
      cases a with
      | some a => exact zs_ret ((okA e).e X W a G.toGood h)
      | none => cases h
    | _ => cases h
  | .retN => fun X W st G h => by
    cases st with
    | Return a pos =>
      cases a with
      | none => exact zs_retN
      | some a => cases h
    | _ => cases h
  | .ife c x y => 
    have hx := okSs x
    have hy := okSs y
    fun X W st G h => by
    cases st with
    | If t a b pos =>
      have h : (mtE nm cs X.N X.env.scope c t && mtSs nm cs X.N X.env.scope x a && mtSs nm cs X.N X.env.scope y b) = true := h
      simp only [Bool.and_eq_true] at h
      exact zs_ife ((okA c).t X W t G.toGood h.1.1) (hx X W a G h.1.2) (hy X W b G h.2)
    | _ => cases h
  | .whl c x => 
    have hx := okSs x
    fun X W st G h => by
    cases st with
    | While t a e pos =>
      cases e with
      | nil =>
        have h : (mtE nm cs X.N X.env.scope c t && mtSs nm cs X.N X.env.scope x a) = true := h
        simp only [Bool.and_eq_true] at h
        exact zs_whl G.po ((okA c).t X W t G.toGood h.1) (hx X W a G h.2)
      | cons _ _ => cases h
    | _ => cases h
  | .for_ t it x => 
    have hx := okSs x
    fun X W st G h => by
    cases st with
    | For tg ir a e pos =>
      cases e with
      | nil =>
        have h : (mtT X.N (tkD X.env.scope) t tg && mtI nm cs X.N X.env.scope it tg ir && nSet ir && mtSs nm cs X.N X.env.scope x a) = true := h
        simp only [Bool.and_eq_true] at h
        exact zs_for G.po G.calm ((okA it).i X W tg ir G.toGood h.1.1.2) (sG G.calm G.nd (tkD_ok G.all) t tg h.1.1.1) (hx X W a G h.2) (fun v => folded_of h.1.2 _ v)
      | cons _ _ => cases h
    | _ => cases h
  | .rai c => fun X W st G h => ok_rai G h
  | .raf c f e => fun X W st G h => ok_raf (okA e).e G h
  | .tryk b es c i j =>
    have hb := okSs b
    fun X W st G h => ok_tryk hb G h
  | .brk => fun X W st G h => by
    cases st with
    | Break pos => exact zs_brk
    | _ => cases h
  | .cnt => fun X W st G h => by
    cases st with
    | Continue pos => exact zs_cnt
    | _ => cases h
  | .pss => fun X W st G h => by
    cases st with
    | Pass pos => exact zs_pss
    | _ => cases h
  | .doc => fun X W st G h => by
    cases st with
    | Expr a pos =>
      cases a with
      | Constant c j p =>
        cases c with
        | str z => exact zs_doc
        | _ => cases h
      | _ => cases h
    | _ => cases h
  | .nev => fun X W st G h => zs_nev
termination_by structural s => s
theorem okSs : ∀ s : List Sm, SSs Γ nm cs s
  | [] => fun X W st G h => by
    cases st with
    | nil => exact zss_nil
    | cons _ _ => cases h
  | s :: ss =>
    have hs := okS s
    have hss := okSs ss
    fun X W st G h => by
    cases st with
    | nil => cases h
    | cons t ts =>
      have h : (mtS nm cs X.N X.env.scope s t && mtSs nm cs X.N X.env.scope ss ts) = true := h
      rw [Bool.and_eq_true] at h
      exact zss_cons (hs X W t G h.1) (hss X W ts G h.2)
termination_by structural s => s
end
end
end Z

/-! ZsP: defs, the law's end. -/
namespace Z
open PySem PyProof.Rows L2

section
variable {P : Program} {w : World} {K : PySem.W.Frag} {mg : Str → Option Value} {base : Heap}
/-- a def that may be called with k rooms -/
def FnR (P : Program) (w : World) (K : PySem.W.Frag) (mg : Str → Option Value) (base : Heap) (k : Nat) (x : Str) (S : Spec) : Prop := ∃ (f : Addr) (fd : FuncData) (ps : List Str) (j : Nat) (sp : Sp) (ds : List Value) (dvs : List V), mg x = some (.ref f) ∧ PySem.W.keepIn K (.ref f) = true ∧
  FnOk P w K mg base (L2.CX P w) j f fd ps sp ∧ j ≤ k ∧ Binds K fd ps ds ∧ Vals dvs ds ∧ ∀ vs H Q E, lift K mg S vs H Q E → sp (vs ++ dvs) H Q E
/-- a method of a class -/
def MeR (P : Program) (w : World) (K : PySem.W.Frag) (mg : Str → Option Value) (base : Heap) (k : Nat) (c m : Str) (S : Spec) : Prop := ∃ (C f : Addr) (fd : FuncData) (ps : List Str) (j : Nat) (sp : Sp) (ds : List Value) (dvs : List V), mg c = some (.ref C) ∧ Cls K C ∧ Meth K C m f ∧
  FnOk P w K mg base (L2.CX P w) j f fd ps sp ∧ j ≤ k ∧ Binds K fd ps ds ∧ Vals dvs ds ∧ ∀ vs H Q E, lift K mg S vs H Q E → sp (vs ++ dvs) H Q E
/-- a class called: its __init__ -/
def NwR (P : Program) (w : World) (K : PySem.W.Frag) (mg : Str → Option Value) (base : Heap) (k : Nat) (c : Str) (S : Spec) : Prop := ∃ (C f : Addr) (fd : FuncData) (ps : List Str) (j : Nat) (sp : Sp) (ds : List Value) (dvs : List V), mg c = some (.ref C) ∧ Mk K C f ∧
  FnOk P w K mg base (L2.CX P w) j f fd ps sp ∧ j + 1 ≤ k ∧ Binds K fd ps ds ∧ Vals dvs ds ∧ ∀ vs H Q E, lift K mg S vs H Q E → sp (vs ++ dvs) H Q E
def ClR (K : PySem.W.Frag) (mg : Str → Option Value) (c : Str) (fs : List Str) : Prop := ∃ C : Addr, mg c = some (.ref C) ∧ Cls K C ∧ ∀ f ∈ fs, NoAttr K C f
def ErR (K : PySem.W.Frag) (mg : Str → Option Value) (c : Str) : Prop := ∃ C : Addr, mg c = some (.ref C) ∧ PySem.W.nsIn K mainGlobals c = some (some (.ref C)) ∧ PySem.W.excIn K C PySem.HandSPX.veTail "ValueError.__new__" = true ∧ PySem.W.keepIn K (.ref C) = true ∧
  PySem.W.subIn K (.ref C) (.type "BaseException") = some true ∧ PySem.W.typeIn K (.ref C) = some (.type "type")
def XnR (mg : Str → Option Value) (c : Str) (cv : Value) : Prop := mg c = some cv ∨ (mg c = none ∧ bootBuiltins c = some cv ∧ c ≠ "__name__")
def XsR (K : PySem.W.Frag) (mg : Str → Option Value) (rs ts : List Str) : Prop := ∀ a ∈ rs, ∃ C : Addr, PySem.W.nsIn K mainGlobals a = some (some (.ref C)) ∧ L2.ExcC K C ∧
  ∀ c ∈ ts, ∃ cv : Value, XnR mg c cv ∧ PySem.W.exmOne K (.ref C) cv = some (subX a c) ∧ PySem.W.kitOne K (.ref C) cv = some (subX a c)
def EiR (P : Program) (w : World) (K : PySem.W.Frag) (mg : Str → Option Value) (base : Heap) (k : Nat) (c f : Str) : Prop := ∃ (C fI : Addr) (fd : FuncData) (ps : List Str) (j : Nat), mg c = some (.ref C) ∧ PySem.W.nsIn K mainGlobals c = some (some (.ref C)) ∧ OexC K C ∧ PySem.W.findIn K (.ref C) f = some none ∧
  PySem.W.findIn K (.ref C) "__init__" = some (some (.ref fI)) ∧ PySem.W.typeIn K (.ref fI) = some (.type "function") ∧ FnOk P w K mg base (L2.CX P w) j fI fd ps (Zh.spInit K f) ∧ j + 1 ≤ k ∧ Binds K fd ps []
def XfR (K : PySem.W.Frag) (c f : Str) : Prop := ∃ C : Addr, PySem.W.nsIn K mainGlobals c = some (some (.ref C)) ∧ L2.XfC K C ∧ PySem.W.findIn K (.ref C) f = some none
def CnR (P : Program) (w : World) (K : PySem.W.Frag) (mg : Str → Option Value) (base : Heap) (k : Nat) : Cn → Spec → Prop
  | .fn x, S => FnR P w K mg base k x S
  | .me c m, S => MeR P w K mg base k c m S
  | .mk c, S => NwR P w K mg base k c S
  | .cl c fs, _ => ClR K mg c fs
  | .er c, _ => ErR K mg c
  | .xs rs ts, _ => XsR K mg rs ts
  | .ei c f, _ => EiR P w K mg base k c f
  | .xf c f, _ => XfR K c f
  | .gd, _ => False
theorem FnR.imp {k : Nat} {x : Str} {S S' : Spec} (h : FnR P w K mg base k x S) (q : ∀ args h F E, S' args h F E → S args h F E) : FnR P w K mg base k x S' := by
  obtain ⟨f, fd, ps, j, sp, ds, dvs, h1, h2, h3, h4, h5, h6, h7⟩ := h
  refine ⟨f, fd, ps, j, sp, ds, dvs, h1, h2, h3, h4, h5, h6, fun vs H Q E l => h7 vs H Q E ?_⟩
  obtain ⟨ρ, h, xs, F, E, r, ps, kq, kx, s⟩ := l
  exact ⟨ρ, h, xs, F, E, r, ps, kq, kx, q _ _ _ _ s⟩
theorem FnR.mono {k k' : Nat} {x : Str} {S : Spec} (h : FnR P w K mg base k x S) (q : k ≤ k') : FnR P w K mg base k' x S := by
  obtain ⟨f, fd, ps, j, sp, ds, dvs, h1, h2, h3, h4, h5, h6, h7⟩ := h
  exact ⟨f, fd, ps, j, sp, ds, dvs, h1, h2, h3, by omega, h5, h6, h7⟩
theorem start_get (N : List Str) (args : List PV) (vs : List V) (h : args.length = vs.length) (i : Nat) (x : PV) (e : (args.map some ++ List.replicate (N.length - args.length) none)[i]? = some (some x)) : args[i]? = some x := by
  by_cases l : i < args.length
  · rw [List.getElem?_append_left (by rw [List.length_map]; exact l), List.getElem?_map] at e
    cases g : args[i]? with
    | none => rw [g] at e; cases e
    | some y => rw [g] at e; cases e; rfl
  · rw [List.getElem?_append_right (by rw [List.length_map]; omega), List.getElem?_replicate] at e
    split at e <;> cases e
/-- the frame at the entry -/
def enter (n : Nat) (args : List PV) : Env := args.map some ++ List.replicate (n - args.length) none
/-- what a body must do -/
def Meets (Γ : List Spec) (n m : Nat) (ir : List Sm) (S : Spec) : Prop := ∀ args h F E, S args h F E → args.length = m ∧ wSs Γ ir (enter n args) h { nx := fun _ h' => F .non h', rt := F, ex := fun x _ h' => E x h' }
/-- what a def's body does, run in its frame -/
theorem body_ok {qual : Str} {st : Stmt} {f : Addr} {N ps : List Str} {k : Nat} {S : Spec} {nm : List Cn} {cs : List (Str × PV)} {Γ : List Spec} {ir : List Sm} {A : Around} {cdv : Value} {outer : List PySem.Env} {s : Shared} {H : Hp} {vs : List V} {Q : VK} {E : XK} (sc : FnScope N ps (defScope st))
    (look : mtSs nm cs N (defScope st) ir (defBody st) = true) (hbl : ∀ n ∈ blts, mg n = none) (hfn : ∀ (i : Nat) (g : Cn), nm[i]? = some g → ∃ T, Γ[i]? = some T ∧ ((g = .gd ∧ A.guards = some []) ∨ CnR P w K mg base k g T))
    (hcs : ∀ p ∈ cs, ∃ (u : Value) (t : V), mg p.1 = some u ∧ RelV t u ∧ ∀ (ρ : List Addr) (H : Hp), Rep K ρ H p.2 t) (meets : Meets Γ N.length ps.length ir S) (hr : Room k (A.deeper (envOfC qual (defScope st) s.heap.objs.size f cdv))) (h : lift K mg S vs H Q E) :
    ∃ t, PSs (cxOf (L2.CX P w) P w K mg base N qual (defScope st) f cdv A outer s H E) (defBody st) t ∧ t { nx := fun _ H' => Q .non H', rt := Q } (L2.start N vs) H := by
  let X := cxOf (L2.CX P w) P w K mg base N qual (defScope st) f cdv A outer s H E
  have tk : Takes X (fun cls d _ H => E cls d H) := takes_of rfl rfl rfl rfl
  have G : Gods X (fun cls d _ H => E cls d H) nm cs Γ :=
    { calm := rfl
      nd := sc.nd
      un := by have := hr.un; show (A.deeper _).units + 65 < cLine; omega
      tk := tk
      bl := hbl
      fn := fun i g e => by
        obtain ⟨T, eT, q⟩ := hfn i g e
        refine ⟨T, eT, ?_⟩
        rcases q with ⟨rfl, q⟩ | q
        · exact q
        match g, q with
        | .fn _, q =>
          obtain ⟨f, fd, ps, j, sp, ds, dvs, h1, h2, h3, h4, h5, h6, h7⟩ := q
          exact ⟨f, fd, ps, j, sp, ds, dvs, h1, h2, h3, hr.mono h4, h5, h6, h7⟩
        | .me _ _, q =>
          obtain ⟨C, f, fd, ps, j, sp, ds, dvs, h1, h2, h2', h3, h4, h5, h6, h7⟩ := q
          exact ⟨C, f, fd, ps, j, sp, ds, dvs, h1, h2, h2', h3, hr.mono h4, h5, h6, h7⟩
        | .mk _, q =>
          obtain ⟨C, f, fd, ps, j, sp, ds, dvs, h1, h2, h3, h4, h5, h6, h7⟩ := q
          exact ⟨C, f, fd, ps, j, sp, ds, dvs, h1, h2, h3, hr.mono h4, h5, h6, h7⟩
        | .cl _ _, q => exact q
        | .er _, q => exact q
        | .xs _ _, q => exact q
        | .xf _ _, q => exact q
        | .gd, q => exact q.elim
        | .ei _ _, q =>
          obtain ⟨C, fI, fd, ps, j, h1, h2, h3, h4, h5, h6, h7, h8, h9⟩ := q
          exact ⟨C, fI, fd, ps, j, h1, h2, h3, h4, h5, h6, h7, hr.mono h8, h9⟩
      cn := fun p hp => hcs p hp
      po := passes_of rfl
      all := fun _ => rfl
      kind := sc.kind
      hs := rfl
      hf := rfl
      hex := rfl }
  obtain ⟨ρ, h, xs, F, E', r, rs, kq, kx, sp⟩ := h
  obtain ⟨hl, m⟩ := meets _ _ _ _ sp
  refine ⟨_, okSs ir X _ (defBody st) G look, ?_⟩
  refine ⟨ρ, enter N.length xs, h, { nx := fun _ h' => F .non h', rt := F, ex := fun x _ h' => E' x h' }, ⟨r, ?_, fun i y e => ?_⟩, ⟨fun ρ' σz' h' σ' H' n s w => ?_, fun _ _ _ _ _ _ _ w => False.elim w, fun _ _ _ _ _ _ _ w => False.elim w, fun r' h' ρ' H' v n hr' rp w => ?_, fun x ρ' σz' h' σ' H' cls d n s xr w => ?_⟩, m⟩
  · unfold enter L2.start
    simp [rs.len]
  · have q := start_get N xs vs rs.len i y e
    obtain ⟨v, g, p⟩ := rs.get q
    refine ⟨v, ?_, p⟩
    unfold L2.start
    rw [List.getElem?_append_left (by rw [List.length_map]; exact (List.getElem?_eq_some_iff.mp g).1), List.getElem?_map, g]
    rfl
  · exact kq .non h' ρ' H' .non n s.hr rfl w
  · exact kq r' h' ρ' H' v n hr' rp w
  · exact kx x h' ρ' H' cls d n s.hr xr w
theorem def_ok {x qual : Str} {st : Stmt} {f : Addr} {fd : FuncData} {N ps : List Str} {k : Nat} {S : Spec} {nm : List Cn} {cs : List (Str × PV)} {Γ : List Spec} {ir : List Sm} (F : Fun K x qual st f fd) (sc : FnScope N ps (defScope st))
    (look : mtSs nm cs N (defScope st) ir (defBody st) = true) (hbl : ∀ n ∈ blts, mg n = none) (hfn : ∀ (i : Nat) (g : Cn), nm[i]? = some g → ∃ T, Γ[i]? = some T ∧ CnR P w K mg base k g T)
    (hcs : ∀ p ∈ cs, ∃ (u : Value) (t : V), mg p.1 = some u ∧ RelV t u ∧ ∀ (ρ : List Addr) (H : Hp), Rep K ρ H p.2 t) (meets : Meets Γ N.length ps.length ir S) : FnOk P w K mg base (L2.CX P w) (k + 1) f fd ps (lift K mg S) := by
  refine F.okX sc (fun vs H Q E h => ?_) (fun cdv A outer s H vs Q E hr h => body_ok sc look hbl (fun i g e => (hfn i g e).imp fun T q => ⟨q.1, .inr q.2⟩) hcs meets hr h)
  obtain ⟨ρ, h, xs, F, E, r, ps, kq, kx, s⟩ := h
  rw [← ps.len]
  exact (meets _ _ _ _ s).1
/-- the law's own def, where it leans on nothing being shown -/
theorem def_top {x qual p : Str} {st : Stmt} {f : Addr} {fd : FuncData} {N : List Str} {k : Nat} {S : Spec} {nm : List Cn} {cs : List (Str × PV)} {Γ : List Spec} {ir : List Sm} (F : Fun K x qual st f fd) (sc : FnScope N [p] (defScope st)) (room : Room (k + 1) callerA)
    (look : mtSs nm cs N (defScope st) ir (defBody st) = true) (hbl : ∀ n ∈ blts, mg n = none) (hfn : ∀ (i : Nat) (g : Cn), nm[i]? = some g → ∃ T, Γ[i]? = some T ∧ (g = .gd ∨ CnR P w K mg base k g T))
    (hcs : ∀ p ∈ cs, ∃ (u : Value) (t : V), mg p.1 = some u ∧ RelV t u ∧ ∀ (ρ : List Addr) (H : Hp), Rep K ρ H p.2 t) (meets : Meets Γ N.length 1 ir S) : Zh.TopOk P w K mg base (L2.CX P w) f fd p (lift K mg S) := by
  obtain ⟨oc, od, kV, doc, pm, an, cdv, ct, osl, rfl, lk, hcd⟩ := F.ex
  exact Zh.top_of lk hcd sc (room.mono (by omega)) fun s H v Q E want => body_ok (ps := [p]) sc look hbl (fun i g e => (hfn i g e).imp fun T q => ⟨q.1, q.2.imp (fun z => ⟨z, rfl⟩) id⟩) hcs meets (room.deeper _) want
theorem top_imp {f : Addr} {fd : FuncData} {p : Str} {sp sp' : Sp} (F : Zh.TopOk P w K mg base (L2.CX P w) f fd p sp) (h : ∀ vs H Q E, sp' vs H Q E → sp vs H Q E) : Zh.TopOk P w K mg base (L2.CX P w) f fd p sp' :=
  fun s H u v Q E a b c d => F s H u v Q E a b c (h _ _ _ _ d)
/-- a def without defaults, in place -/
theorem fnr_of {x : Str} {f : Addr} {fd : FuncData} {ps : List Str} {k : Nat} {S : Spec} (hm : mg x = some (.ref f)) (kp : PySem.W.keepIn K (.ref f) = true) (F : FnOk P w K mg base (L2.CX P w) k f fd ps (lift K mg S)) (b : Binds K fd ps []) : FnR P w K mg base k x S :=
  ⟨f, fd, ps, k, _, [], [], hm, kp, F, Nat.le_refl _, b, .nil, fun vs H Q E h => by rw [List.append_nil]; exact h⟩
/-- the law's own promise -/
def spLaw (n : Nat) : Spec := fun args h F _ => ∃ ns : List Int, args = [.ils (ns.map PV.int)] ∧ h = [] ∧ ns.length ≤ n ∧ ∀ h', F (.bl true) h'
theorem reps_ints (ρ : List Addr) (H : Hp) : ∀ ns : List Int, Reps K ρ H (ns.map PV.int) (ns.map V.int)
  | [] => rfl
  | n :: ns => ⟨.int n, ns.map V.int, rfl, rfl, reps_ints ρ H ns⟩
theorem law_head {n : Nat} (H : Hp) (a : Addr) (ns : List Int) (hl : ns.length ≤ n) (ho : Only H) (hs : SqL K H a (ns.map V.int)) : lift K mg (spLaw n) [.ref a] H (fun v _ => v = .bl true) fun _ _ _ => False := by
  refine ⟨[], [], [.ils (ns.map PV.int)], fun v _ => v = .bl true, noX, ⟨rfl, List.nodup_nil, fun i o a e => by cases e⟩, ⟨_, [], rfl, ⟨a, _, rfl, ?_, reps_ints [] H ns⟩, rfl⟩, ?_, fun _ _ _ _ _ _ _ _ _ z => z.elim, ns, rfl, rfl, hl, fun h' => rfl⟩
  · rcases hs with (h | ⟨o, h⟩) | h
    · rcases ho a with q | ⟨o, xs, q⟩
      · rw [h] at q; cases q
      · rw [h] at q; cases q
    · exact .inl ⟨o, h⟩
    · exact .inr (.inr h)
  · intro r h' ρ' H' v _ _ rp e
    subst e
    exact rp
/-- the law's promise, without the top's names -/
def spL (K : PySem.W.Frag) : Sp := fun vs H Q E => ∀ mg : Str → Option Value, lift K mg (spLaw 63) vs H Q E
theorem law_spL {H : Hp} {a : Addr} {ns : List Int} (hl : ns.length ≤ 63) (ho : Only H) (hs : SqL K H a (ns.map V.int)) : spL K [.ref a] H (fun v _ => v = .bl true) fun _ _ _ => False := fun mg => law_head H a ns hl ho hs
theorem fn_spL {f : Addr} {fd : FuncData} {ps : List Str} {k : Nat} (F : FnOk P w K mg base (L2.CX P w) k f fd ps (lift K mg (spLaw 63))) : FnOk P w K mg base (L2.CX P w) k f fd ps (spL K) :=
  F.imp fun vs H Q E h => h mg
theorem top_spL {f : Addr} {fd : FuncData} {p : Str} (F : Zh.TopOk P w K mg base (L2.CX P w) f fd p (lift K mg (spLaw 63))) : Zh.TopOk P w K mg base (L2.CX P w) f fd p (spL K) := top_imp F fun vs H Q E h => h mg
theorem no_exc {P : Program} {w : World} {H : Hp} {s s1 : Shared} {e : Value} (z : L2.CX P w [] H s (fun _ _ _ => False) e s1) : False := by
  obtain ⟨_, _, _, _, _, _, _, _, _, _, _, _, z⟩ := z
  exact z
end
end Z

/-! ZsR: an error class's own __init__. -/
namespace Z
open PySem PyProof.Rows L2
/-- what stands for a class among the callees -/
def noS : Spec := fun _ _ _ _ => False
/-- what the clause and isinstance ask of two classes of one's own -/
theorem xs_own {K : PySem.W.Frag} {C D : Addr} {b : Bool} (h1 : PySem.W.subIn K (.ref D) (.type "BaseException") = some true) (hd : PySem.W.hasDictIn K D = true) (ht : PySem.W.typeIn K (.ref D) = some (.type "type")) (h4 : PySem.W.subIn K (.ref C) (.ref D) = some b) (hne : b = false → C ≠ D) :
    PySem.W.exmOne K (.ref C) (.ref D) = some b ∧ PySem.W.kitOne K (.ref C) (.ref D) = some b := by
  refine ⟨PySem.W.exm_ref h1 hd ht h4, ?_⟩
  unfold PySem.W.kitOne
  by_cases e : C = D
  · subst e
    rw [if_pos (beq_self_eq_true _)]
    cases b with
    | true => rfl
    | false => exact absurd rfl (hne rfl)
  · rw [if_neg (by rw [beq_iff_eq]; intro z; exact e (Value.ref.inj z))]
    obtain ⟨cd, hc, _⟩ := PySem.W.any_some hd
    unfold PySem.W.kitCls
    dsimp only
    rw [if_pos (by rw [hc, ht] <;> rfl)]
    exact h4
theorem xs_blt {K : PySem.W.Frag} {C : Addr} {b : Bool} (h4 : PySem.W.subIn K (.ref C) (.type "ValueError") = some b) (h1 : PySem.W.subIn K (.type "ValueError") (.type "BaseException") = some true) : PySem.W.exmOne K (.ref C) (.type "ValueError") = some b ∧ PySem.W.kitOne K (.ref C) (.type "ValueError") = some b := by
  have m : PySem.W.kitMeta "ValueError" = true := by decide +kernel
  have k : PySem.W.kitCls K (.ref C) (.type "ValueError") = some b := by
    unfold PySem.W.kitCls
    dsimp only
    rw [if_pos m]
    exact h4
  constructor
  · unfold PySem.W.exmOne
    rw [if_pos (by rw [h1] <;> rfl)]
    exact k
  · unfold PySem.W.kitOne
    rw [if_neg (by rw [beq_iff_eq]; intro z; cases z)]
    exact k
/-- Base.__init__(self, 'text'); self.f = f -/
def initB (c fld : Str) (sc : Scope) : List Stmt → Bool
  | [.Expr (.Call (.Attribute (.Name x _) m apos) [.Name s _, .Constant (.str _) _ _] [] pos) _, .Assign [.Attribute (.Name s2 _) g _] (.Name v _) _] =>
    x == c && m == ("__init__" : Str) && s == ("self" : Str) && s2 == ("self" : Str) && g == fld && v == fld && glB sc c && visB sc "self" && visB sc fld && apos.endLine == pos.line && !(fld == ("__debug__" : Str)) && !(fld == ("__classdict__" : Str))
  | _ => false
theorem initB_inv {c fld : Str} {sc : Scope} {b : List Stmt} (h : initB c fld sc b = true) : ∃ p1 apos p3 t j p4 pos p5 p6 p7 p8 p9,
    b = [.Expr (.Call (.Attribute (.Name c p1) "__init__" apos) [.Name "self" p3, .Constant (.str t) j p4] [] pos) p5, .Assign [.Attribute (.Name "self" p6) fld p7] (.Name fld p8) p9] ∧ glB sc c = true ∧ visB sc "self" = true ∧ visB sc fld = true ∧ (apos.endLine == pos.line) = true ∧
      (fld == ("__debug__" : Str)) = false ∧ (fld == ("__classdict__" : Str)) = false := by
  unfold initB at h
  split at h
  · simp only [Bool.and_eq_true] at h
    obtain ⟨⟨⟨⟨⟨⟨⟨⟨⟨⟨⟨h1, h2⟩, h3⟩, h4⟩, h5⟩, h6⟩, h7⟩, h8⟩, h9⟩, h10⟩, h11⟩, h12⟩ := h
    obtain rfl := beq_str h1
    obtain rfl := beq_str h2
    obtain rfl := beq_str h3
    obtain rfl := beq_str h4
    obtain rfl := beq_str h5
    obtain rfl := beq_str h6
    exact ⟨_, _, _, _, _, _, _, _, _, _, _, _, rfl, h7, h8, h9, h10, by simpa using h11, by simpa using h12⟩
  · cases h
section
variable {P : Program} {w : World} {K : PySem.W.Frag} {mg : Str → Option Value} {base : Heap}
theorem init_ok {x qual : Str} {st : Stmt} {f : Addr} {fd : FuncData} {c fld : Str} {P0 : Addr} {k : Nat} (F : Fun K x qual st f fd) (sc : FnScope ["self", fld] ["self", fld] (defScope st)) (hb : initB c fld (defScope st) (defBody st) = true) (hm : mg c = some (.ref P0)) (B : Zh.BaseC K P0) :
    FnOk P w K mg base (L2.CX P w) (k + 1) f fd ["self", fld] (Zh.spInit K fld) := by
  obtain ⟨p1, apos, p3, t, j, p4, pos, p5, p6, p7, p8, p9, eb, g, vs, vf, hl, hd, hcd⟩ := initB_inv hb
  refine F.okX sc (fun us H Q E h => ?_) (fun cdv A outer s H us Q E hr h => ?_)
  · obtain ⟨a, C, y, rfl, _⟩ := h
    rfl
  · let X := cxOf (L2.CX P w) P w K mg base ["self", fld] qual (defScope st) f cdv A outer s H E
    have gc : Gl X c ∧ (c == ("__debug__" : Str)) = false := gl_of (X := X) g
    have pself : ∀ q, PE X (.Name "self" q) (tVar 0) := fun q => pe_var rfl (vis_of (X := X) vs)
    have pfld : ∀ q, PE X (.Name fld q) (tVar 1) := fun q => pe_var rfl (vis_of (X := X) vf) hd hcd
    have args : PA X [.Name "self" p3, .Constant (.str t) j p4] (tCons (tVar 0) (tCons (tC (.str t)) tNil)) := pa_cons (pself p3) (pa_cons pe_str pa_nil)
    have stars : ∀ a ∈ [Expr.Name "self" p3, .Constant (.str t) j p4], ∀ r, starEach (a :: r) X.env = (false, eval a X.env) :: starEach r X.env := by
      intro a ha r
      simp only [List.mem_cons, List.not_mem_nil, or_false] at ha
      rcases ha with rfl | rfl <;> rfl
    have call : PE X (.Call (.Attribute (.Name c p1) "__init__" apos) [.Name "self" p3, .Constant (.str t) j p4] [] pos) (tVeI X.K (tCons (tVar 0) (tCons (tC (.str t)) tNil))) :=
      Zh.pe_binit (pl := (do return (← importBound (.Name c p1) X.env).getD true)) gc.1 hm gc.2 B args (by
        rw [arm_eval_Call, attr_of (e := .Name c p1) rfl]
        have lt : [Expr.Name "self" p3, .Constant (.str t) j p4].length < 30 := by show 2 < 30; decide
        simp only [mcall_eq (form_of lt stars) hl]) rfl rfl
    rw [eb]
    refine ⟨_, pss_cons (ps_expr call rfl) (pss_cons (ps_ost (pself p6) (pfld p8) rfl) pss_nil), ?_⟩
    obtain ⟨a, C, y, rfl, T, hno, ea, k⟩ := h
    refine ⟨.ref a, rfl, ?_⟩
    refine ⟨a, C, [.str t], rfl, (by show 1 ≤ 1000; decide), T, ea, ?_⟩
    refine ⟨y, rfl, ?_⟩
    refine ⟨.ref a, rfl, ?_⟩
    exact ⟨a, C, rfl, T, hno, .inl ⟨ea, fun dx n ne => k dx n ne⟩⟩
end
end Z

/-! ZsQ: plain lemmas for the proofs over Z's conditions. -/
namespace Z
open PySem

/-! ### heaps that grow -/
def Ext (h h' : Hep) : Prop := ∀ (q : Nat) (o : Ob), h[q]? = some o → h'[q]? = some o
def ExtB (d : Nat) (h h' : Hep) : Prop := h.length ≤ h'.length ∧ ∀ (q : Nat) (o : Ob), q ≠ d → h[q]? = some o → h'[q]? = some o
theorem Ext.rfl' {h : Hep} : Ext h h := fun _ _ e => e
theorem Ext.trans {h h1 h2 : Hep} (a : Ext h h1) (b : Ext h1 h2) : Ext h h2 := fun q o e => b q o (a q o e)
theorem app_get {h j : Hep} {q : Nat} {o : Ob} (e : h[q]? = some o) : (h ++ j)[q]? = some o := by
  rw [List.getElem?_append_left (List.getElem?_eq_some_iff.mp e).1]; exact e
theorem Ext.app {h j : Hep} : Ext h (h ++ j) := fun _ _ e => app_get e
theorem Ext.len {h h' : Hep} (a : Ext h h') : h.length ≤ h'.length := by
  apply Nat.le_of_not_lt
  intro l
  have hl : h'.length < h.length := l
  have e := a h'.length (h[h'.length]) (List.getElem?_eq_getElem hl)
  rw [List.getElem?_eq_none (Nat.le_refl _)] at e
  cases e
theorem lt_of_get {h : Hep} {q : Nat} {o : Ob} (e : h[q]? = some o) : q < h.length := (List.getElem?_eq_some_iff.mp e).1
theorem new_get {h : Hep} {o : Ob} : (h ++ [o])[h.length]? = some o := by simp
theorem set_get {h : Hep} {q : Nat} {o o' : Ob} (e : h[q]? = some o) : (h.set q o')[q]? = some o' := List.getElem?_set_self (lt_of_get e)
theorem ExtB.set {h : Hep} {d : Nat} {o : Ob} : ExtB d h (h.set d o) := ⟨by simp, fun q o' n e => by rw [List.getElem?_set_ne (Ne.symm n)]; exact e⟩
theorem Ext.b {h h' : Hep} {d : Nat} (a : Ext h h') : ExtB d h h' := ⟨a.len, fun q o _ e => a q o e⟩
theorem ExtB.trans {h h1 h2 : Hep} {d : Nat} (a : ExtB d h h1) (b : ExtB d h1 h2) : ExtB d h h2 := ⟨Nat.le_trans a.1 b.1, fun q o n e => b.2 q o n (a.2 q o n e)⟩
/-- what was there ahead of a fresh thing -/
theorem ExtB.ext {h h1 h2 : Hep} {d : Nat} (a : Ext h h1) (b : ExtB d h1 h2) (n : h.length ≤ d) : Ext h h2 := fun q o e => b.2 q o (by have := lt_of_get e; omega) (a q o e)

theorem wSs_nil {Γ : List Spec} {σ : Env} {h : Hep} {D : Dz} : wSs Γ [] σ h D = D.nx σ h := rfl
theorem wSs_step {Γ : List Spec} {s : Sm} {r : List Sm} {σ : Env} {h : Hep} {D : Dz} (w : wS Γ s σ h { D with nx := fun σ' h' => wSs Γ r σ' h' D }) : wSs Γ (s :: r) σ h D := w
/-! ### loops -/
theorem wFor_ind {g : Grd} {t : Tg} {b : Env → Hep → Dz → Prop} {D : Dz} (I : List PV → Env → Hep → Prop) :
    ∀ (items : List PV) (σ : Env) (h : Hep), I items σ h →
    (∀ x r σ h, I (x :: r) σ h → grdOk h g ∧ ∃ σ', tgt t x σ = some σ' ∧ ∀ K : Env → Hep → Prop, (∀ σ2 h2, I r σ2 h2 → K σ2 h2) → b σ' h { D with nx := K, ct := K, bk := D.nx }) →
    (∀ σ h, I [] σ h → grdOk h g ∧ D.nx σ h) → wFor g t b items σ h D
  | [], σ, h, i, _, e => e σ h i
  | x :: r, σ, h, i, s, e => by
    obtain ⟨gk, σ', et, k⟩ := s x r σ h i
    refine ⟨gk, ?_⟩
    rw [et]
    exact k _ fun σ2 h2 i2 => wFor_ind I r σ2 h2 i2 s e
theorem wComp_ind {g : Grd} {t : Tg} {c : Env → Hep → KB → Prop} {e : Env → Hep → KQ → Prop} {σ : Env} {F : List PV → Hep → Prop} (I : List PV → List PV → Hep → Prop) :
    ∀ (items acc : List PV) (h : Hep), I items acc h →
    (∀ x r acc h, I (x :: r) acc h → grdOk h g ∧ ∃ σ', tgt t x σ = some σ' ∧ ∀ K : List PV → Hep → Prop, (∀ acc2 h2, I r acc2 h2 → K acc2 h2) → c σ' h fun b h1 => if b = true then e σ' h1 fun y h2 => acc.length < big ∧ K (acc ++ [y]) h2 else K acc h1) →
    (∀ acc h, I [] acc h → grdOk h g ∧ F acc h) → wComp g t c e σ items acc h F
  | [], acc, h, i, _, z => z acc h i
  | x :: r, acc, h, i, s, z => by
    obtain ⟨gk, σ', et, k⟩ := s x r acc h i
    refine ⟨gk, ?_⟩
    rw [et]
    exact k (fun acc2 h2 => wComp g t c e σ r acc2 h2 F) fun acc2 h2 i2 => wComp_ind I r acc2 h2 i2 s z

/-! ### data -/
theorem eqW_of {h : Hep} {x y : PV} {d e : PyData} {K : Bool → Prop} (e1 : dat h 60 x = some d) (e2 : dat h 60 y = some e) (c1 : d.canLay0 = true) (c2 : e.canLay0 = true) (k : K (PyData.eqv d e)) : eqW h x y K :=
  .inl ⟨d, e, e1, e2, dat_shaped (by decide) e1 c1, dat_shaped (by decide) e2 c2, k⟩
/-- two texts -/
theorem eqW_txt {h : Hep} {s t : Str} {K : Bool → Prop} (k : K (s == t)) : eqW h (.str s) (.str t) K := .inr ⟨s, t, rfl, rfl, k⟩
theorem eqW_same {h : Hep} {x y : PV} {d : PyData} {K : Bool → Prop} (e1 : dat h 60 x = some d) (e2 : dat h 60 y = some d) (c : d.canLay0 = true) (k : K true) : eqW h x y K :=
  eqW_of e1 e2 c c (by rw [SeqAt.eqv_refl d c]; exact k)
theorem lay_ints : ∀ ns : List Int, PyData.canLayAll0 (ns.map PyData.int) = true
  | [] => rfl
  | n :: ns => lay_ints ns
theorem lay_pairs : ∀ ps : List (Int × Int), PyData.canLayAll0 (ps.map fun p => PyData.tuple [.int p.1, .int p.2]) = true
  | [] => rfl
  | n :: ns => lay_pairs ns
theorem eqW_int {h : Hep} {i j : Int} {K : Bool → Prop} : eqW h (.int i) (.int j) K ↔ K (i == j) := by
  refine ⟨fun q => ?_, fun k => eqW_of rfl rfl rfl rfl k⟩
  rcases q with ⟨d, e, h1, h2, _, _, k⟩ | ⟨_, _, h1, _⟩
  · cases h1; cases h2; exact k
  · cases h1
theorem datAll_ints {f : PV → Option PyData} (hf : ∀ i, f (.int i) = some (.int i)) : ∀ ns : List Int, datAll f (ns.map PV.int) = some (ns.map PyData.int)
  | [] => rfl
  | n :: ns => by rw [List.map_cons, datAll, hf, datAll_ints hf ns]; rfl
theorem dat_int (h : Hep) (n : Nat) (i : Int) : dat h n (.int i) = some (.int i) := by cases n <;> rfl
theorem dat_lst {h : Hep} {n r : Nat} {xs : List PV} {ds : List PyData} (e : h[r]? = some (.lst xs)) (k : datAll (dat h n) xs = some ds) : dat h (n + 1) (.ref r) = some (.list ds) := by
  rw [dat, e]
  show (datAll (dat h n) xs).map PyData.list = _
  rw [k]; rfl
theorem dat_ints {h : Hep} {n r : Nat} {ns : List Int} (e : h[r]? = some (.lst (ns.map PV.int))) : dat h (n + 1) (.ref r) = some (.list (ns.map PyData.int)) := dat_lst e (datAll_ints (dat_int h n) ns)
/-- a list of pairs of ints -/
def pairV (p : Int × Int) : PV := .tup [.int p.1, .int p.2]
theorem datAll_pairs {h : Hep} {n : Nat} : ∀ ps : List (Int × Int), datAll (dat h (n + 1)) (ps.map pairV) = some (ps.map fun p => PyData.tuple [.int p.1, .int p.2])
  | [] => rfl
  | p :: ps => by
    rw [List.map_cons, datAll, datAll_pairs ps]
    show (match (datAll (dat h n) [.int p.1, .int p.2]).map PyData.tuple, _ with | some d, some ds => some (d :: ds) | _, _ => none) = _
    rw [show datAll (dat h n) [.int p.1, .int p.2] = some [.int p.1, .int p.2] from datAll_ints (dat_int h n) [p.1, p.2]]
    rfl
theorem eqv_ints : ∀ ns ms : List Int, PyData.eqvAll (ns.map PyData.int) (ms.map PyData.int) = (ns == ms)
  | [], [] => rfl
  | [], _ :: _ => rfl
  | _ :: _, [] => rfl
  | n :: ns, m :: ms => by
    show (PyData.eqv (.int n) (.int m) && PyData.eqvAll (ns.map PyData.int) (ms.map PyData.int)) = _
    rw [eqv_ints ns ms]
    show ((n == m) && (ns == ms)) = _
    rfl
/-- l == [] -/
theorem eqW_empty {h : Hep} {r q : Nat} {ns : List Int} {K : Bool → Prop} (e1 : h[r]? = some (.lst (ns.map PV.int))) (e2 : h[q]? = some (.lst [])) (k : K ns.isEmpty) : eqW h (.ref r) (.ref q) K := by
  refine eqW_of (dat_ints e1) (dat_ints (ns := []) e2) (lay_ints ns) rfl ?_
  show K (PyData.eqvAll (ns.map PyData.int) (([] : List Int).map PyData.int))
  rw [eqv_ints]
  cases ns <;> exact k
theorem eqW_iempty {h : Hep} {q : Nat} {ns : List Int} {K : Bool → Prop} (e2 : h[q]? = some (.lst [])) (k : K ns.isEmpty) : eqW h (.ils (ns.map PV.int)) (.ref q) K := by
  refine eqW_of (d := .list (ns.map PyData.int)) ?_ (dat_ints (ns := []) e2) (lay_ints ns) rfl ?_
  · show (datAll (dat h 59) (ns.map PV.int)).map PyData.list = _
    rw [datAll_ints (dat_int h 59)]; rfl
  · show K (PyData.eqvAll (ns.map PyData.int) (([] : List Int).map PyData.int))
    rw [eqv_ints]
    cases ns <;> exact k

/-! ### lists of ints -/
theorem intsOf_map : ∀ ns : List Int, intsOf (ns.map PV.int) = some ns
  | [] => rfl
  | n :: ns => by rw [List.map_cons, intsOf, intsOf_map ns]; rfl
theorem boolsOf_map : ∀ ns : List Bool, boolsOf (ns.map PV.bl) = some ns
  | [] => rfl
  | n :: ns => by rw [List.map_cons, boolsOf, boolsOf_map ns]; rfl
theorem ixN_nat {n i : Nat} (h : i < n) : ixN n (i : Int) = some i := by
  show (if (0 : Int) ≤ (i : Int) then (if (i : Int) < (n : Int) then some (i : Int).toNat else none) else _) = some i
  rw [if_pos (by omega), if_pos (by omega), Int.toNat_natCast]
theorem ixN_int {n : Nat} {i : Int} (h : 0 ≤ i) (h2 : i < n) : ixN n i = some i.toNat := by
  show (if (0 : Int) ≤ i then (if i < (n : Int) then some i.toNat else none) else _) = some i.toNat
  rw [if_pos h, if_pos h2]
/-- a def as it stands -/
def inl (Γ : List Spec) (n m : Nat) (ir : List Sm) : Spec := fun args h F E => args.length = m ∧ wSs Γ ir (enter n args) h { nx := fun _ h' => F .non h', rt := F, ex := fun x _ h' => E x h' }
theorem mt_inl {Γ : List Spec} {n m : Nat} {ir : List Sm} : Meets Γ n m ir (inl Γ n m ir) := fun _ _ _ _ h => h
/-- a comprehension over what each item gives -/
theorem wComp_map {g : Grd} {t : Tg} {e : Env → Hep → KQ → Prop} {σ : Env} {F : List PV → Hep → Prop} {h : Hep} (f : PV → PV) (items : List PV) (hg : ∀ h', Ext h h' → grdOk h' g)
    (he : ∀ x ∈ items, ∀ h', Ext h h' → ∃ σ', tgt t x σ = some σ' ∧ ∀ G : KQ, (∀ h2, Ext h h2 → G (f x) h2) → e σ' h' G) (hl : items.length ≤ big) (fin : ∀ h', Ext h h' → F (items.map f) h') : wComp g t (fun _ h' G => G true h') e σ items [] h F := by
  refine wComp_ind (fun rest acc h' => Ext h h' ∧ ∃ pre, items = pre ++ rest ∧ acc = pre.map f) items [] h ⟨.rfl', [], rfl, rfl⟩ ?_ ?_
  · rintro x r acc h' ⟨ex, pre, hp, rfl⟩
    obtain ⟨σ', e1, e2⟩ := he x (by rw [hp]; simp) h' ex
    refine ⟨hg h' ex, σ', e1, fun K hK => ?_⟩
    show if true = true then _ else _
    rw [if_pos rfl]
    refine e2 _ fun h2 ex2 => ⟨?_, hK _ _ ⟨ex2, pre ++ [x], by rw [hp]; simp, by simp⟩⟩
    have := congrArg List.length hp
    simp at this
    rw [List.length_map]
    omega
  · rintro acc h' ⟨ex, pre, hp, rfl⟩
    rw [List.append_nil] at hp
    exact ⟨hg h' ex, by rw [← hp]; exact fin h' ex⟩
theorem boolsOf_const : ∀ xs : List PV, boolsOf (xs.map fun _ => PV.bl true) = some (xs.map fun _ => true)
  | [] => rfl
  | x :: xs => by rw [List.map_cons, boolsOf, boolsOf_const xs]; rfl
theorem all_const : ∀ xs : List PV, (xs.map fun _ => true).all id = true
  | [] => rfl
  | x :: xs => all_const xs
theorem ExtB.set' {h h' : Hep} {d r : Nat} {o : Ob} (a : ExtB d h h') (l : h.length ≤ r) : ExtB d h (h'.set r o) := ⟨by rw [List.length_set]; exact a.1, fun q o' n e => by
  have := lt_of_get e
  rw [List.getElem?_set_ne (by omega)]
  exact a.2 q o' n e⟩
theorem ExtB.app {h h' j : Hep} {d : Nat} (a : ExtB d h h') : ExtB d h (h' ++ j) := a.trans Ext.app.b
theorem map_erase {α β : Type} (f : α → β) : ∀ (l : List α) (i : Nat), (l.map f).eraseIdx i = (l.eraseIdx i).map f
  | [], _ => rfl
  | _ :: _, 0 => rfl
  | x :: l, i + 1 => by
    show f x :: (l.map f).eraseIdx i = f x :: (l.eraseIdx i).map f
    rw [map_erase f l i]
theorem erase_perm {α : Type} : ∀ (l : List α) (i : Nat) (h : i < l.length), (l[i] :: l.eraseIdx i).Perm l
  | x :: l, 0, _ => List.Perm.refl _
  | x :: l, i + 1, h => by
    have h' : i < l.length := by simpa using h
    exact (List.Perm.swap x l[i] (l.eraseIdx i)).trans ((erase_perm l i h').cons x)
theorem Ext.set' {h h' : Hep} {r : Nat} {o : Ob} (a : Ext h h') (l : h.length ≤ r) : Ext h (h'.set r o) := fun q o' e => by
  have := lt_of_get e
  rw [List.getElem?_set_ne (by omega)]
  exact a q o' e
/-! ### dicts by ints -/
def kvI (l : List (Int × PV)) : List (Ky × PV) := l.map fun p => (Ky.one (.inl p.1), p.2)
theorem dget_kvI (n : Int) : ∀ l : List (Int × PV), dget (.one (.inl n)) (kvI l) = l.lookup n
  | [] => rfl
  | (m, v) :: l => by
    show (if Ky.one (.inl m) = Ky.one (.inl n) then some v else dget (.one (.inl n)) (kvI l)) = _
    rw [List.lookup_cons]
    by_cases e : m = n
    · subst e
      rw [if_pos rfl, beq_self_eq_true]
    · rw [if_neg (fun z => e (by injection z with z; injection z)), show (n == m) = false from by simpa using (Ne.symm e), dget_kvI n l]
theorem kind_kvI (n : Int) (l : List (Int × PV)) : kindOk (.one (.inl n)) (kvI l) = true := by cases l <;> rfl
theorem lookup_none {n : Int} : ∀ {l : List (Int × PV)}, n ∉ l.map (·.1) → l.lookup n = none
  | [], _ => rfl
  | (m, v) :: l, h => by
    rw [List.lookup_cons, show (n == m) = false from by simpa using (fun e => h (by simp [e])), lookup_none (l := l) fun z => h (by simp at z ⊢; exact .inr z)]
theorem dput_new {n : Int} {l : List (Int × PV)} {v : PV} (h : n ∉ l.map (·.1)) : dput (.one (.inl n)) v (kvI l) = kvI (l ++ [(n, v)]) := by
  unfold dput
  rw [dget_kvI, lookup_none h]
  simp [kvI]
theorem len_kvI (l : List (Int × PV)) : (kvI l).length = l.length := by simp [kvI]
/-! ### slices -/
theorem cutL_drop {α : Type} (xs : List α) (i : Nat) (h : i ≤ xs.length) : cutL xs (some (i : Int)) none = xs.drop i := by
  unfold cutL
  have e : sIx xs.length 0 (some (i : Int)) = i := by
    rw [show sIx xs.length 0 (some (i : Int)) = min i xs.length from HT.sIx_nat _ _ _, Nat.min_eq_left h]
  have e2 : sIx xs.length xs.length none = xs.length := rfl
  rw [e, e2]
  exact List.take_of_length_le (by rw [List.length_drop]; omega)
theorem enumL_drop {xs : List PV} {i : Nat} (h : i < xs.length) : enumL i (xs.drop i) = .tup [.int i, xs[i]] :: enumL (i + 1) (xs.drop (i + 1)) := by
  rw [List.drop_eq_getElem_cons h]
  rfl
/-! ### more of comprehensions and of «in» -/
theorem wComp_filter {g : Grd} {t : Tg} {c : Env → Hep → KB → Prop} {e : Env → Hep → KQ → Prop} {σ : Env} {F : List PV → Hep → Prop} {h : Hep} (p : PV → Bool) (f : PV → PV) (items : List PV) (hg : ∀ h', Ext h h' → grdOk h' g)
    (he : ∀ x ∈ items, ∀ h', Ext h h' → ∃ σ', tgt t x σ = some σ' ∧ ∀ G : KB, (∀ h2, Ext h h2 → G (p x) h2) → c σ' h' G)
    (hf : ∀ x ∈ items, ∀ h', Ext h h' → ∀ σ', tgt t x σ = some σ' → p x = true → ∀ G : KQ, (∀ h2, Ext h h2 → G (f x) h2) → e σ' h' G) (hl : items.length ≤ big) (fin : ∀ h', Ext h h' → F ((items.filter p).map f) h') : wComp g t c e σ items [] h F := by
  refine wComp_ind (fun rest acc h' => Ext h h' ∧ ∃ pre, items = pre ++ rest ∧ acc = (pre.filter p).map f) items [] h ⟨.rfl', [], rfl, rfl⟩ ?_ ?_
  · rintro x r acc h' ⟨ex, pre, hp, rfl⟩
    have mx : x ∈ items := by rw [hp]; simp
    obtain ⟨σ', e1, e2⟩ := he x mx h' ex
    refine ⟨hg h' ex, σ', e1, fun K hK => e2 _ fun h2 ex2 => ?_⟩
    have hlen : ((pre.filter p).map f).length < big := by
      have := congrArg List.length hp
      have q := List.length_filter_le p pre
      simp at this
      rw [List.length_map]
      omega
    cases hpx : p x with
    | true =>
      rw [if_pos rfl]
      exact hf x mx h2 ex2 σ' e1 hpx _ fun h3 ex3 => ⟨hlen, hK _ _ ⟨ex3, pre ++ [x], by rw [hp]; simp, by rw [List.filter_append]; simp [hpx]⟩⟩
    | false =>
      rw [if_neg (by decide)]
      exact hK _ _ ⟨ex2, pre ++ [x], by rw [hp]; simp, by rw [List.filter_append]; simp [hpx]⟩
  · rintro acc h' ⟨ex, pre, hp, rfl⟩
    rw [List.append_nil] at hp
    exact ⟨hg h' ex, by rw [← hp]; exact fin h' ex⟩
theorem any_ints (i : Int) : ∀ l : List Int, (l.map PyData.int).any (fun e => PyData.eqv e (.int i)) = decide (i ∈ l)
  | [] => by simp
  | x :: l => by
    rw [List.map_cons, List.any_cons, any_ints i l]
    show ((x == i) || decide (i ∈ l)) = decide (i ∈ x :: l)
    by_cases e : x = i
    · subst e; simp
    · simp [e, Ne.symm e]
theorem inL_ints {h : Hep} {i : Int} {l : List Int} {K : Bool → Prop} (k : K (decide (i ∈ l))) : inL h (.int i) (l.map PV.int) K :=
  ⟨.int i, l.map .int, dat_int h 59 i, rfl, datAll_ints (dat_int h 59) l, lay_ints l, by rw [any_ints]; exact k⟩
theorem eqW_tempty {h : Hep} {l : List Int} {K : Bool → Prop} (k : K l.isEmpty) : eqW h (.tup (l.map PV.int)) (.tup []) K := by
  refine eqW_of (d := .tuple (l.map PyData.int)) (e := .tuple []) ?_ rfl (lay_ints l) rfl ?_
  · show (datAll (dat h 59) (l.map PV.int)).map PyData.tuple = _
    rw [datAll_ints (dat_int h 59)]; rfl
  · show K (PyData.eqvAll (l.map PyData.int) (([] : List Int).map PyData.int))
    rw [eqv_ints]
    cases l <;> exact k
/-! ### sorted -/
theorem sortZ_map {α : Type} (f : α → PV) (g : α → PyData) (L : List α) : sortZ (L.map f) (L.map g) = (L.mergeSort (PySem.W.dataLe false g)).map f := by
  unfold sortZ
  have e : (L.map f).zip (L.map g) = L.map fun x => (f x, g x) := by
    induction L with
    | nil => rfl
    | cons x L ih => rw [List.map_cons, List.map_cons, List.zip_cons_cons, ih]; rfl
  rw [e]
  have e2 : (L.map fun x => (f x, g x)).mergeSort (PySem.W.dataLe false fun p => p.2) = (L.mergeSort (PySem.W.dataLe false g)).map fun x => (f x, g x) := by
    rw [← PySem.W.sort_maps (r := PySem.W.dataLe false g) (s := PySem.W.dataLe false fun (p : PV × PyData) => p.2) (fun x => (f x, g x))]
    intro a _ b _
    rw [PySem.W.dataLe_eq, PySem.W.dataLe_eq]
  rw [e2, List.map_map]
  rfl
def srtI (L : List Int) : List Int := L.mergeSort fun a b => decide (a ≤ b)
def leP (p q : Int × Int) : Bool := decide (p.1 < q.1 ∨ (p.1 = q.1 ∧ p.2 ≤ q.2))
def srtP (L : List (Int × Int)) : List (Int × Int) := L.mergeSort leP
def pairD (p : Int × Int) : PyData := .tuple [.int p.1, .int p.2]
theorem srtI_perm (L : List Int) : (srtI L).Perm L := List.mergeSort_perm _ _
theorem srtP_perm (L : List (Int × Int)) : (srtP L).Perm L := List.mergeSort_perm _ _
theorem srtI_sorted (L : List Int) : (srtI L).Pairwise (· ≤ ·) := by
  have := List.pairwise_mergeSort (le := fun (a b : Int) => decide (a ≤ b)) (fun a b c h1 h2 => by simp at *; omega) (fun a b => by simp; omega) L
  exact this.imp fun h => by simpa using h
theorem srtP_sorted (L : List (Int × Int)) : (srtP L).Pairwise (fun p q => p.1 < q.1 ∨ (p.1 = q.1 ∧ p.2 ≤ q.2)) := by
  have := List.pairwise_mergeSort (le := leP) (fun a b c h1 h2 => by unfold leP at *; simp at *; omega) (fun a b => by unfold leP; simp; omega) L
  exact this.imp fun h => by unfold leP at h; simpa using h
theorem sortZ_ints (L : List Int) : sortZ (L.map PV.int) (L.map PyData.int) = (srtI L).map PV.int := by
  rw [sortZ_map, PySem.W.dataLe_int (fun b => b)]
  rfl
theorem sortZ_pairs (L : List (Int × Int)) : sortZ (L.map pairV) (L.map pairD) = (srtP L).map pairV := by
  rw [sortZ_map]
  have e : PySem.W.dataLe false pairD = leP := PySem.W.dataLe_ii (fun (p : Int × Int) => p.1) (fun p => p.2)
  rw [e]
  rfl
theorem sorted_ints {h : Hep} {L : List Int} {G : List PyData → Prop} (k : G (L.map PyData.int)) : ∃ ds, datAll (dat h 59) (L.map PV.int) = some ds ∧ PySem.W.AllAlike ds ∧ PySem.W.Sortable ds ∧ G ds :=
  ⟨L.map PyData.int, datAll_ints (dat_int h 59) L, PySem.W.AllAlike.of fun _ _ => rfl, PySem.W.Sortable.others fun b => ⟨(fun e => by cases e), (fun xs e => by cases e)⟩, k⟩
theorem sorted_pairs {h : Hep} {L : List (Int × Int)} {G : List PyData → Prop} (k : G (L.map pairD)) : ∃ ds, datAll (dat h 59) (L.map pairV) = some ds ∧ PySem.W.AllAlike ds ∧ PySem.W.Sortable ds ∧ G ds :=
  ⟨L.map pairD, datAll_pairs (n := 58) L, PySem.W.AllAlike.of fun a b => by simp [pairD, PySem.W.alike, PySem.W.alikeAll], PySem.W.Sortable.tuples fun b => ⟨_, _, rfl⟩, k⟩
theorem eqW_ints {h : Hep} {r q : Nat} {ns ms : List Int} {K : Bool → Prop} (e1 : h[r]? = some (.lst (ns.map PV.int))) (e2 : h[q]? = some (.lst (ms.map PV.int))) (k : K (ns == ms)) : eqW h (.ref r) (.ref q) K := by
  refine eqW_of (dat_ints e1) (dat_ints e2) (lay_ints ns) (lay_ints ms) ?_
  show K (PyData.eqvAll (ns.map PyData.int) (ms.map PyData.int))
  rw [eqv_ints]
  exact k
theorem eqW_pairs {h : Hep} {r q : Nat} {ns : List (Int × Int)} {K : Bool → Prop} (e1 : h[r]? = some (.lst (ns.map pairV))) (e2 : h[q]? = some (.lst (ns.map pairV))) (k : K true) : eqW h (.ref r) (.ref q) K :=
  eqW_same (dat_lst (n := 59) e1 (datAll_pairs (n := 58) ns)) (dat_lst (n := 59) e2 (datAll_pairs (n := 58) ns)) (lay_pairs ns) k
theorem srtI_id {L : List Int} (h : L.Pairwise (· ≤ ·)) : srtI L = L := by
  unfold srtI
  exact List.mergeSort_of_pairwise (h.imp fun h => by simpa using h)
theorem sorted_eq : ∀ {L M : List Int}, L.Pairwise (· < ·) → M.Pairwise (· < ·) → (∀ k, k ∈ L ↔ k ∈ M) → L = M
  | [], [], _, _, _ => rfl
  | [], y :: M, _, _, e => by have := (e y).mpr List.mem_cons_self; cases this
  | x :: L, [], _, _, e => by have := (e x).mp List.mem_cons_self; cases this
  | x :: L, y :: M, h1, h2, e => by
    have p1 := List.pairwise_cons.mp h1
    have p2 := List.pairwise_cons.mp h2
    have xy : x = y := by
      rcases List.mem_cons.mp ((e x).mp List.mem_cons_self) with h | h
      · exact h
      · rcases List.mem_cons.mp ((e y).mpr List.mem_cons_self) with k | k
        · exact k.symm
        · have := p2.1 x h
          have := p1.1 y k
          omega
    subst xy
    rw [sorted_eq p1.2 p2.2 fun k => ?_]
    constructor
    · intro hk
      rcases List.mem_cons.mp ((e k).mp (List.mem_cons_of_mem _ hk)) with h | h
      · subst h; have := p1.1 _ hk; omega
      · exact h
    · intro hk
      rcases List.mem_cons.mp ((e k).mpr (List.mem_cons_of_mem _ hk)) with h | h
      · subst h; have := p2.1 _ hk; omega
      · exact h
end Z

local macro_rules
  | `(tactic| simp_arith []) => `(tactic| simp (maxSteps := 2000000) only [Z.inW, Z.wComp, Z.wFor, Z.wSs_nil, Z.wS, Z.wE, Z.wEs, Z.wO, Z.wC, Z.wI, Z.binW, Z.binI, Z.cmpW, Z.truW, Z.itemW, Z.sliceW, Z.revW, Z.storeW, Z.biW, Z.isT, Z.miW, Z.isL, Z.getL, Z.getD, Z.listW, Z.seqW, Z.walkW, Z.fldW, Z.insW, Z.stfW, Z.getO, Z.putZ, Z.pairW, Z.dgetW, Z.isD, Z.smW, Z.isS, Z.tgt, Z.tgts, Z.wipeZ, Z.grdOk, Z.eqW_int, Z.enter, List.map_cons, List.map_nil, List.length_cons, List.length_nil, List.replicate_succ, List.replicate_zero, Nat.add_sub_cancel, Nat.sub_self, Nat.zero_add, List.cons_append, List.nil_append, List.getElem?_cons_zero, List.getElem?_cons_succ, List.set_cons_zero, List.set_cons_succ, if_true, if_false, ite_true, ite_false, Bool.not_true, Bool.not_false, Bool.true_eq_false, Bool.false_eq_true, true_and, and_true, reduceCtorEq, Option.some.injEq, false_and, and_false, false_or, or_false, true_or, or_true, Nat.reduceAdd, Nat.reduceSub, List.isEmpty_cons, List.isEmpty_nil, beq_self_eq_true, decide_true, decide_false, Bool.false_or, Bool.true_or, Bool.or_false, Bool.or_true, Bool.and_true, Bool.and_false, Bool.true_and, Bool.false_and, reduceIte, dite_true, dite_false, beq_iff_eq, decide_eq_true_eq, bne_iff_ne, Z.ixN_int, Int.reduceLE, Int.reduceLT, Int.reduceNeg, Int.reduceToNat, Int.cast_ofNat_Int, exists_and_left, exists_eq_left', exists_eq_left, exists_eq', not_true_eq_false, not_false_eq_true, Int.toNat_natCast, Nat.reduceLT, Nat.reduceLeDiff, ne_eq, Z.big, Nat.zero_le, List.length_map, List.getElem?_map, Option.map_some, Option.map_none, Int.reducePow, Nat.reducePow])
local macro_rules
  | `(tactic| simp_arith [$xs,*]) => `(tactic| simp (maxSteps := 2000000) only [Z.inW, Z.wComp, Z.wFor, Z.wSs_nil, Z.wS, Z.wE, Z.wEs, Z.wO, Z.wC, Z.wI, Z.binW, Z.binI, Z.cmpW, Z.truW, Z.itemW, Z.sliceW, Z.revW, Z.storeW, Z.biW, Z.isT, Z.miW, Z.isL, Z.getL, Z.getD, Z.listW, Z.seqW, Z.walkW, Z.fldW, Z.insW, Z.stfW, Z.getO, Z.putZ, Z.pairW, Z.dgetW, Z.isD, Z.smW, Z.isS, Z.tgt, Z.tgts, Z.wipeZ, Z.grdOk, Z.eqW_int, Z.enter, List.map_cons, List.map_nil, List.length_cons, List.length_nil, List.replicate_succ, List.replicate_zero, Nat.add_sub_cancel, Nat.sub_self, Nat.zero_add, List.cons_append, List.nil_append, List.getElem?_cons_zero, List.getElem?_cons_succ, List.set_cons_zero, List.set_cons_succ, if_true, if_false, ite_true, ite_false, Bool.not_true, Bool.not_false, Bool.true_eq_false, Bool.false_eq_true, true_and, and_true, reduceCtorEq, Option.some.injEq, false_and, and_false, false_or, or_false, true_or, or_true, Nat.reduceAdd, Nat.reduceSub, List.isEmpty_cons, List.isEmpty_nil, beq_self_eq_true, decide_true, decide_false, Bool.false_or, Bool.true_or, Bool.or_false, Bool.or_true, Bool.and_true, Bool.and_false, Bool.true_and, Bool.false_and, reduceIte, dite_true, dite_false, beq_iff_eq, decide_eq_true_eq, bne_iff_ne, Z.ixN_int, Int.reduceLE, Int.reduceLT, Int.reduceNeg, Int.reduceToNat, Int.cast_ofNat_Int, exists_and_left, exists_eq_left', exists_eq_left, exists_eq', not_true_eq_false, not_false_eq_true, Int.toNat_natCast, Nat.reduceLT, Nat.reduceLeDiff, ne_eq, Z.big, Nat.zero_le, List.length_map, List.getElem?_map, Option.map_some, Option.map_none, Int.reducePow, Nat.reducePow, $xs,*])

/-! Zcom: the helpers that most laws share. -/
namespace Com
open PySem Z
def ir__law_mixed : List Sm := [
  .set (.nm 2) (.bin .Mod (.bin .Mult (.bin .Add (.bin .Add (.bin .Mod (.var 0) (.int 1000000007)) (.bin .Mult (.bin .Mult (.int 31) (.var 1)) (.var 1))) (.int 7)) (.int 48271)) (.int 2147483647)),
  .ret (.bin .Mod (.bin .Mult (.var 2) (.bin .Add (.int 16807) (.bin .Mult (.int 7919) (.var 1)))) (.int 2147483629))]
def sp__law_mixed : Z.Spec := fun args h F _ => ∃ c k : Int, args = [.int c, .int k] ∧ 0 ≤ k ∧ k ≤ 10 ^ 15 ∧ ∀ r : Int, 0 ≤ r → r < 2147483629 → F (.int r) h
theorem mulOk_l {i j : Int} (h1 : 0 ≤ i) (h2 : i < 2 ^ 64) : mulOk i j := .inl ⟨by omega, h2⟩
theorem mulOk_r {i j : Int} (h1 : 0 ≤ j) (h2 : j < 2 ^ 64) : mulOk i j := .inr (.inl ⟨by omega, h2⟩)
theorem divOk_of {j : Int} (h1 : 0 < j) (h2 : j < 2 ^ 64) : divOk j := by
  refine ⟨h1, ?_⟩
  have : j.natAbs < 2 ^ 64 := by omega
  have := (Nat.log2_lt (by omega : j.natAbs ≠ 0)).mpr this
  omega
theorem mt__law_mixed : Meets [] 3 2 ir__law_mixed sp__law_mixed := by
  rintro args h F E ⟨c, k, rfl, h1, h2, kf⟩
  refine ⟨rfl, ?_⟩
  unfold ir__law_mixed
  simp (maxSteps := 2000000) only [wSs, inW, wComp, wFor, wSs_nil, wS, wE, wEs, wO, wC, wI, binW, binI, cmpW, truW, itemW, sliceW, revW, storeW, biW, isT, miW, isL, getL, getD, listW, seqW, walkW, fldW, insW, stfW, getO, putZ, pairW, dgetW, isD, smW, isS, tgt, tgts, wipeZ, grdOk, eqW_int, enter, List.map_cons, List.map_nil, List.length_cons, List.length_nil, List.replicate_succ, List.replicate_zero, Nat.add_sub_cancel, Nat.sub_self, Nat.zero_add, List.cons_append, List.nil_append, List.getElem?_cons_zero, List.getElem?_cons_succ, List.set_cons_zero, List.set_cons_succ, if_true, if_false, ite_true, ite_false, Bool.not_true, Bool.not_false, Bool.true_eq_false, Bool.false_eq_true, true_and, and_true, reduceCtorEq, Option.some.injEq, false_and, and_false, false_or, or_false, true_or, or_true, Nat.reduceAdd, Nat.reduceSub, List.isEmpty_cons, List.isEmpty_nil, beq_self_eq_true, decide_true, decide_false, Bool.false_or, Bool.true_or, Bool.or_false, Bool.or_true, Bool.and_true, Bool.and_false, Bool.true_and, Bool.false_and, reduceIte, dite_true, dite_false, beq_iff_eq, decide_eq_true_eq, bne_iff_ne, ixN_int, Int.reduceLE, Int.reduceLT, Int.reduceNeg, Int.reduceToNat, Int.cast_ofNat_Int, exists_and_left, exists_eq_left', exists_eq_left, exists_eq', not_true_eq_false, not_false_eq_true, Int.toNat_natCast, Nat.reduceLT, Nat.reduceLeDiff, ne_eq, big, Nat.zero_le, List.length_map, List.getElem?_map, Option.map_some, Option.map_none, Int.reducePow, Nat.reducePow]
  refine ⟨mulOk_l (by decide) (by decide), mulOk_r h1 (by omega), mulOk_r (by decide) (by decide), mulOk_l (by decide) (by decide), mulOk_l (by omega) (by omega), ?_⟩
  exact kf _ (Int.emod_nonneg _ (by decide)) (Int.emod_lt_of_pos _ (by decide))

/-- what a draw is: a number, a counter, what is left of a long number -/
def drawV (c n o : Int) : List PV := [.int c, .int n, .int o]
def ir__law_next : List Sm := [
  .ife (.cmp .Gt (.idx (.var 0) (.int 2)) (.int 0)) [.set (.nm 2) (.bin .Mod (.idx (.var 0) (.int 2)) (.var 1)), .sto (.var 0) (.int 2) (.bin .FloorDiv (.idx (.var 0) (.int 2)) (.var 1)), .ret (.var 2)] [],
  .sto (.var 0) (.int 1) (.bin .Add (.idx (.var 0) (.int 1)) (.int 1)),
  .set (.nm 3) (.bin .Add (.bin .Mult (.call 0 [(.idx (.var 0) (.int 0)), (.idx (.var 0) (.int 1))]) (.int 2147483629)) (.call 0 [(.idx (.var 0) (.int 0)), (.bin .Add (.idx (.var 0) (.int 1)) (.int 9001))])),
  .ret (.bin .Mod (.bin .FloorDiv (.var 3) (.int 11)) (.var 1))]
/-- a draw, whose counter is below 10^12 -/
def IsDraw (h : Hep) (d : Nat) (B : Int) : Prop := ∃ c n o : Int, h[d]? = some (.lst (drawV c n o)) ∧ 0 ≤ n ∧ n ≤ B ∧ 0 ≤ o
def sp__law_next : Z.Spec := fun args h F _ => ∃ (d : Nat) (m B : Int), args = [.ref d, .int m] ∧ IsDraw h d B ∧ B ≤ 10 ^ 12 ∧ 1 ≤ m ∧ m < 2 ^ 64 ∧ ∀ (v : Int) (h' : Hep), 0 ≤ v → v < m → IsDraw h' d (B + 1) → h'.length = h.length → (∀ q, q ≠ d → h'[q]? = h[q]?) → F (.int v) h'
theorem mt__law_next : Meets [sp__law_mixed] 4 2 ir__law_next sp__law_next := by
  rintro args h F E ⟨d, m, B, rfl, ⟨c, n, o, e, hn, hnB, ho⟩, hB, hm, hm2, kf⟩
  refine ⟨rfl, ?_⟩
  unfold ir__law_next
  simp (maxSteps := 2000000) only [wSs, inW, wComp, wFor, wSs_nil, wS, wE, wEs, wO, wC, wI, binW, binI, cmpW, truW, itemW, sliceW, revW, storeW, biW, isT, miW, isL, getL, getD, listW, seqW, walkW, fldW, insW, stfW, getO, putZ, pairW, dgetW, isD, smW, isS, tgt, tgts, wipeZ, grdOk, eqW_int, enter, List.map_cons, List.map_nil, List.length_cons, List.length_nil, List.replicate_succ, List.replicate_zero, Nat.add_sub_cancel, Nat.sub_self, Nat.zero_add, List.cons_append, List.nil_append, List.getElem?_cons_zero, List.getElem?_cons_succ, List.set_cons_zero, List.set_cons_succ, if_true, if_false, ite_true, ite_false, Bool.not_true, Bool.not_false, Bool.true_eq_false, Bool.false_eq_true, true_and, and_true, reduceCtorEq, Option.some.injEq, false_and, and_false, false_or, or_false, true_or, or_true, Nat.reduceAdd, Nat.reduceSub, List.isEmpty_cons, List.isEmpty_nil, beq_self_eq_true, decide_true, decide_false, Bool.false_or, Bool.true_or, Bool.or_false, Bool.or_true, Bool.and_true, Bool.and_false, Bool.true_and, Bool.false_and, reduceIte, dite_true, dite_false, beq_iff_eq, decide_eq_true_eq, bne_iff_ne, ixN_int, Int.reduceLE, Int.reduceLT, Int.reduceNeg, Int.reduceToNat, Int.cast_ofNat_Int, exists_and_left, exists_eq_left', exists_eq_left, exists_eq', not_true_eq_false, not_false_eq_true, Int.toNat_natCast, Nat.reduceLT, Nat.reduceLeDiff, ne_eq, big, Nat.zero_le, List.length_map, List.getElem?_map, Option.map_some, Option.map_none, Int.reducePow, Nat.reducePow, e, drawV]
  by_cases c1 : 0 < o
  · simp (maxSteps := 2000000) only [wSs, inW, wComp, wFor, wSs_nil, wS, wE, wEs, wO, wC, wI, binW, binI, cmpW, truW, itemW, sliceW, revW, storeW, biW, isT, miW, isL, getL, getD, listW, seqW, walkW, fldW, insW, stfW, getO, putZ, pairW, dgetW, isD, smW, isS, tgt, tgts, wipeZ, grdOk, eqW_int, enter, List.map_cons, List.map_nil, List.length_cons, List.length_nil, List.replicate_succ, List.replicate_zero, Nat.add_sub_cancel, Nat.sub_self, Nat.zero_add, List.cons_append, List.nil_append, List.getElem?_cons_zero, List.getElem?_cons_succ, List.set_cons_zero, List.set_cons_succ, if_true, if_false, ite_true, ite_false, Bool.not_true, Bool.not_false, Bool.true_eq_false, Bool.false_eq_true, true_and, and_true, reduceCtorEq, Option.some.injEq, false_and, and_false, false_or, or_false, true_or, or_true, Nat.reduceAdd, Nat.reduceSub, List.isEmpty_cons, List.isEmpty_nil, beq_self_eq_true, decide_true, decide_false, Bool.false_or, Bool.true_or, Bool.or_false, Bool.or_true, Bool.and_true, Bool.and_false, Bool.true_and, Bool.false_and, reduceIte, dite_true, dite_false, beq_iff_eq, decide_eq_true_eq, bne_iff_ne, ixN_int, Int.reduceLE, Int.reduceLT, Int.reduceNeg, Int.reduceToNat, Int.cast_ofNat_Int, exists_and_left, exists_eq_left', exists_eq_left, exists_eq', not_true_eq_false, not_false_eq_true, Int.toNat_natCast, Nat.reduceLT, Nat.reduceLeDiff, ne_eq, big, Nat.zero_le, List.length_map, List.getElem?_map, Option.map_some, Option.map_none, Int.reducePow, Nat.reducePow, c1]
    refine ⟨by omega, divOk_of (by omega) hm2, kf _ _ (Int.emod_nonneg _ (by omega)) (Int.emod_lt_of_pos _ (by omega)) ⟨c, n, o / m, set_get e, hn, by omega, Int.ediv_nonneg ho (by omega)⟩ (by simp) fun q hq => List.getElem?_set_ne (Ne.symm hq)⟩
  · simp (maxSteps := 2000000) only [wSs, inW, wComp, wFor, wSs_nil, wS, wE, wEs, wO, wC, wI, binW, binI, cmpW, truW, itemW, sliceW, revW, storeW, biW, isT, miW, isL, getL, getD, listW, seqW, walkW, fldW, insW, stfW, getO, putZ, pairW, dgetW, isD, smW, isS, tgt, tgts, wipeZ, grdOk, eqW_int, enter, List.map_cons, List.map_nil, List.length_cons, List.length_nil, List.replicate_succ, List.replicate_zero, Nat.add_sub_cancel, Nat.sub_self, Nat.zero_add, List.cons_append, List.nil_append, List.getElem?_cons_zero, List.getElem?_cons_succ, List.set_cons_zero, List.set_cons_succ, if_true, if_false, ite_true, ite_false, Bool.not_true, Bool.not_false, Bool.true_eq_false, Bool.false_eq_true, true_and, and_true, reduceCtorEq, Option.some.injEq, false_and, and_false, false_or, or_false, true_or, or_true, Nat.reduceAdd, Nat.reduceSub, List.isEmpty_cons, List.isEmpty_nil, beq_self_eq_true, decide_true, decide_false, Bool.false_or, Bool.true_or, Bool.or_false, Bool.or_true, Bool.and_true, Bool.and_false, Bool.true_and, Bool.false_and, reduceIte, dite_true, dite_false, beq_iff_eq, decide_eq_true_eq, bne_iff_ne, ixN_int, Int.reduceLE, Int.reduceLT, Int.reduceNeg, Int.reduceToNat, Int.cast_ofNat_Int, exists_and_left, exists_eq_left', exists_eq_left, exists_eq', not_true_eq_false, not_false_eq_true, Int.toNat_natCast, Nat.reduceLT, Nat.reduceLeDiff, ne_eq, big, Nat.zero_le, List.length_map, List.getElem?_map, Option.map_some, Option.map_none, Int.reducePow, Nat.reducePow, c1, set_get e]
    refine ⟨c, n + 1, rfl, by omega, by omega, fun r hr1 hr2 => ?_⟩
    simp (maxSteps := 2000000) only [wSs, inW, wComp, wFor, wSs_nil, wS, wE, wEs, wO, wC, wI, binW, binI, cmpW, truW, itemW, sliceW, revW, storeW, biW, isT, miW, isL, getL, getD, listW, seqW, walkW, fldW, insW, stfW, getO, putZ, pairW, dgetW, isD, smW, isS, tgt, tgts, wipeZ, grdOk, eqW_int, enter, List.map_cons, List.map_nil, List.length_cons, List.length_nil, List.replicate_succ, List.replicate_zero, Nat.add_sub_cancel, Nat.sub_self, Nat.zero_add, List.cons_append, List.nil_append, List.getElem?_cons_zero, List.getElem?_cons_succ, List.set_cons_zero, List.set_cons_succ, if_true, if_false, ite_true, ite_false, Bool.not_true, Bool.not_false, Bool.true_eq_false, Bool.false_eq_true, true_and, and_true, reduceCtorEq, Option.some.injEq, false_and, and_false, false_or, or_false, true_or, or_true, Nat.reduceAdd, Nat.reduceSub, List.isEmpty_cons, List.isEmpty_nil, beq_self_eq_true, decide_true, decide_false, Bool.false_or, Bool.true_or, Bool.or_false, Bool.or_true, Bool.and_true, Bool.and_false, Bool.true_and, Bool.false_and, reduceIte, dite_true, dite_false, beq_iff_eq, decide_eq_true_eq, bne_iff_ne, ixN_int, Int.reduceLE, Int.reduceLT, Int.reduceNeg, Int.reduceToNat, Int.cast_ofNat_Int, exists_and_left, exists_eq_left', exists_eq_left, exists_eq', not_true_eq_false, not_false_eq_true, Int.toNat_natCast, Nat.reduceLT, Nat.reduceLeDiff, ne_eq, big, Nat.zero_le, List.length_map, List.getElem?_map, Option.map_some, Option.map_none, Int.reducePow, Nat.reducePow, set_get e]
    refine ⟨mulOk_r (by decide) (by decide), c, n + 1 + 9001, rfl, by omega, by omega, fun r2 _ _ => ?_⟩
    simp (maxSteps := 2000000) only [wSs, inW, wComp, wFor, wSs_nil, wS, wE, wEs, wO, wC, wI, binW, binI, cmpW, truW, itemW, sliceW, revW, storeW, biW, isT, miW, isL, getL, getD, listW, seqW, walkW, fldW, insW, stfW, getO, putZ, pairW, dgetW, isD, smW, isS, tgt, tgts, wipeZ, grdOk, eqW_int, enter, List.map_cons, List.map_nil, List.length_cons, List.length_nil, List.replicate_succ, List.replicate_zero, Nat.add_sub_cancel, Nat.sub_self, Nat.zero_add, List.cons_append, List.nil_append, List.getElem?_cons_zero, List.getElem?_cons_succ, List.set_cons_zero, List.set_cons_succ, if_true, if_false, ite_true, ite_false, Bool.not_true, Bool.not_false, Bool.true_eq_false, Bool.false_eq_true, true_and, and_true, reduceCtorEq, Option.some.injEq, false_and, and_false, false_or, or_false, true_or, or_true, Nat.reduceAdd, Nat.reduceSub, List.isEmpty_cons, List.isEmpty_nil, beq_self_eq_true, decide_true, decide_false, Bool.false_or, Bool.true_or, Bool.or_false, Bool.or_true, Bool.and_true, Bool.and_false, Bool.true_and, Bool.false_and, reduceIte, dite_true, dite_false, beq_iff_eq, decide_eq_true_eq, bne_iff_ne, ixN_int, Int.reduceLE, Int.reduceLT, Int.reduceNeg, Int.reduceToNat, Int.cast_ofNat_Int, exists_and_left, exists_eq_left', exists_eq_left, exists_eq', not_true_eq_false, not_false_eq_true, Int.toNat_natCast, Nat.reduceLT, Nat.reduceLeDiff, ne_eq, big, Nat.zero_le, List.length_map, List.getElem?_map, Option.map_some, Option.map_none, Int.reducePow, Nat.reducePow]
    exact ⟨divOk_of (by decide) (by decide), by omega, kf _ _ (Int.emod_nonneg _ (by omega)) (Int.emod_lt_of_pos _ (by omega)) ⟨c, n + 1, o, set_get e, by omega, by omega, ho⟩ (by simp) fun q hq => List.getElem?_set_ne (Ne.symm hq)⟩
/-! the draw of a script -/
def ir__law_draw : List Sm := [
  .set (.nm 2) (.ife (.cmp .NotEq (.var 0) (.lst [])) (.idx (.var 0) (.bin .Mod (.var 1) (.bi .len [(.var 0)]))) (.int 0)),
  .set (.nm 3) (.ife (.cmp .GtE (.var 2) (.bin .Pow (.int 10) (.int 18))) (.var 2) (.int 0)),
  .for_ (.nm 4) (.rng1 (.bin .FloorDiv (.var 1) (.bi .max2 [(.int 1), (.bi .len [(.var 0)])]))) [.set (.nm 3) (.bin .FloorDiv (.var 3) (.bin .Pow (.int 10) (.int 18)))],
  .ret (.lst [(.var 2), (.bin .Mult (.int 64) (.var 1)), (.var 3)])]
def sp__law_draw : Z.Spec := fun args h F _ => ∃ (ns : List Int) (k : Int), args = [.ils (ns.map PV.int), .int k] ∧ ns.length ≤ 63 ∧ 0 ≤ k ∧ k ≤ 10 ^ 6 ∧ ∀ (r : Nat) (h' : Hep), Ext h h' → h.length ≤ r → IsDraw h' r (10 ^ 9) → F (.ref r) h'
theorem mt__law_draw : Meets [] 5 2 ir__law_draw sp__law_draw := by
  rintro args h F E ⟨ns, k, rfl, hl, hk, hk2, kf⟩
  refine ⟨rfl, ?_⟩
  unfold ir__law_draw
  simp (maxSteps := 2000000) only [wSs, inW, wComp, wFor, wSs_nil, wS, wE, wEs, wO, wC, wI, binW, binI, cmpW, truW, itemW, sliceW, revW, storeW, biW, isT, miW, isL, getL, getD, listW, seqW, walkW, fldW, insW, stfW, getO, putZ, pairW, dgetW, isD, smW, isS, tgt, tgts, wipeZ, grdOk, eqW_int, enter, List.map_cons, List.map_nil, List.length_cons, List.length_nil, List.replicate_succ, List.replicate_zero, Nat.add_sub_cancel, Nat.sub_self, Nat.zero_add, List.cons_append, List.nil_append, List.getElem?_cons_zero, List.getElem?_cons_succ, List.set_cons_zero, List.set_cons_succ, if_true, if_false, ite_true, ite_false, Bool.not_true, Bool.not_false, Bool.true_eq_false, Bool.false_eq_true, true_and, and_true, reduceCtorEq, Option.some.injEq, false_and, and_false, false_or, or_false, true_or, or_true, Nat.reduceAdd, Nat.reduceSub, List.isEmpty_cons, List.isEmpty_nil, beq_self_eq_true, decide_true, decide_false, Bool.false_or, Bool.true_or, Bool.or_false, Bool.or_true, Bool.and_true, Bool.and_false, Bool.true_and, Bool.false_and, reduceIte, dite_true, dite_false, beq_iff_eq, decide_eq_true_eq, bne_iff_ne, ixN_int, Int.reduceLE, Int.reduceLT, Int.reduceNeg, Int.reduceToNat, Int.cast_ofNat_Int, exists_and_left, exists_eq_left', exists_eq_left, exists_eq', not_true_eq_false, not_false_eq_true, Int.toNat_natCast, Nat.reduceLT, Nat.reduceLeDiff, ne_eq, big, Nat.zero_le, List.length_map, List.getElem?_map, Option.map_some, Option.map_none, Int.reducePow, Nat.reducePow]
  have pw : powOk 10 18 := ⟨by decide, by decide, by decide⟩
  have loop : ∀ (c o : Int) (hh : Hep) (m : Int), 0 ≤ o → ∀ (b : Z.Env → Hep → Dz → Prop) (D : Dz), (∀ y o h' D', 0 ≤ o → (∀ o', 0 ≤ o' → D'.nx [some (PV.ils (ns.map PV.int)), some (.int k), some (.int c), some (.int o'), y] h') → b [some (PV.ils (ns.map PV.int)), some (.int k), some (.int c), some (.int o), y] h' D') →
      (∀ y o, 0 ≤ o → D.nx [some (PV.ils (ns.map PV.int)), some (.int k), some (.int c), some (.int o), y] hh) →
      wFor [] (Tg.nm 4) b (rngL 0 (k / m).toNat) [some (PV.ils (ns.map PV.int)), some (.int k), some (.int c), some (.int o), none] hh D := by
    intro c o hh m ho b D hb hD
    refine wFor_ind (fun _ σ h' => h' = hh ∧ ∃ x o, σ = [some (PV.ils (ns.map PV.int)), some (.int k), some (.int c), some (.int o), x] ∧ 0 ≤ o) _ _ _ ⟨rfl, none, o, rfl, ho⟩ ?_ ?_
    · rintro x r σ h' ⟨rfl, y, o, rfl, ho⟩
      refine ⟨trivial, _, rfl, fun K hK => ?_⟩
      exact hb (some x) o _ _ ho fun o' ho' => hK _ _ ⟨rfl, some x, o', rfl, ho'⟩
    · rintro σ h' ⟨rfl, y, o, rfl, ho⟩
      exact ⟨trivial, hD y o ho⟩
  have fin : ∀ (c o : Int), 0 ≤ o → F (PV.ref (h ++ [Ob.lst []]).length) (h ++ [Ob.lst []] ++ [Ob.lst [PV.int c, PV.int (64 * k), PV.int o]]) := fun c o ho => kf _ _ (Ext.app.trans .app) (by simp) ⟨c, 64 * k, o, new_get, by omega, by omega, ho⟩
  refine eqW_iempty new_get ?_
  have m1 : 1 ≤ max (1 : Int) (ns.length : Int) := by omega
  have k1 : 0 ≤ k / max (1 : Int) (ns.length : Int) := Int.ediv_nonneg hk (by omega)
  have k2 : k / max (1 : Int) (ns.length : Int) ≤ k := Int.ediv_le_self _ hk
  have dv : divOk (max (1 : Int) (ns.length : Int)) := divOk_of (by omega) (by omega)
  have d10 : divOk 1000000000000000000 := divOk_of (by decide) (by decide)
  have mk : mulOk 64 k := mulOk_l (by decide) (by decide)
  cases hns : ns.isEmpty with
  | true =>
    obtain rfl : ns = [] := List.isEmpty_iff.mp hns
    have q1 : 0 ≤ k / max (1 : Int) 0 := Int.ediv_nonneg hk (by decide)
    have q2 : k / max (1 : Int) 0 ≤ k := Int.ediv_le_self _ hk
    simp (maxSteps := 2000000) only [wSs, inW, wComp, wFor, wSs_nil, wS, wE, wEs, wO, wC, wI, binW, binI, cmpW, truW, itemW, sliceW, revW, storeW, biW, isT, miW, isL, getL, getD, listW, seqW, walkW, fldW, insW, stfW, getO, putZ, pairW, dgetW, isD, smW, isS, tgt, tgts, wipeZ, grdOk, eqW_int, enter, List.map_cons, List.map_nil, List.length_cons, List.length_nil, List.replicate_succ, List.replicate_zero, Nat.add_sub_cancel, Nat.sub_self, Nat.zero_add, List.cons_append, List.nil_append, List.getElem?_cons_zero, List.getElem?_cons_succ, List.set_cons_zero, List.set_cons_succ, if_true, if_false, ite_true, ite_false, Bool.not_true, Bool.not_false, Bool.true_eq_false, Bool.false_eq_true, true_and, and_true, reduceCtorEq, Option.some.injEq, false_and, and_false, false_or, or_false, true_or, or_true, Nat.reduceAdd, Nat.reduceSub, List.isEmpty_cons, List.isEmpty_nil, beq_self_eq_true, decide_true, decide_false, Bool.false_or, Bool.true_or, Bool.or_false, Bool.or_true, Bool.and_true, Bool.and_false, Bool.true_and, Bool.false_and, reduceIte, dite_true, dite_false, beq_iff_eq, decide_eq_true_eq, bne_iff_ne, ixN_int, Int.reduceLE, Int.reduceLT, Int.reduceNeg, Int.reduceToNat, Int.cast_ofNat_Int, exists_and_left, exists_eq_left', exists_eq_left, exists_eq', not_true_eq_false, not_false_eq_true, Int.toNat_natCast, Nat.reduceLT, Nat.reduceLeDiff, ne_eq, big, Nat.zero_le, List.length_map, List.getElem?_map, Option.map_some, Option.map_none, Int.reducePow, Nat.reducePow, pw]
    refine ⟨dv, by omega, by omega, loop _ _ _ _ (by omega) _ _ (fun y o h' D' ho hn => ?_) fun y o ho => ?_⟩
    · simp (maxSteps := 2000000) only [wSs, inW, wComp, wFor, wSs_nil, wS, wE, wEs, wO, wC, wI, binW, binI, cmpW, truW, itemW, sliceW, revW, storeW, biW, isT, miW, isL, getL, getD, listW, seqW, walkW, fldW, insW, stfW, getO, putZ, pairW, dgetW, isD, smW, isS, tgt, tgts, wipeZ, grdOk, eqW_int, enter, List.map_cons, List.map_nil, List.length_cons, List.length_nil, List.replicate_succ, List.replicate_zero, Nat.add_sub_cancel, Nat.sub_self, Nat.zero_add, List.cons_append, List.nil_append, List.getElem?_cons_zero, List.getElem?_cons_succ, List.set_cons_zero, List.set_cons_succ, if_true, if_false, ite_true, ite_false, Bool.not_true, Bool.not_false, Bool.true_eq_false, Bool.false_eq_true, true_and, and_true, reduceCtorEq, Option.some.injEq, false_and, and_false, false_or, or_false, true_or, or_true, Nat.reduceAdd, Nat.reduceSub, List.isEmpty_cons, List.isEmpty_nil, beq_self_eq_true, decide_true, decide_false, Bool.false_or, Bool.true_or, Bool.or_false, Bool.or_true, Bool.and_true, Bool.and_false, Bool.true_and, Bool.false_and, reduceIte, dite_true, dite_false, beq_iff_eq, decide_eq_true_eq, bne_iff_ne, ixN_int, Int.reduceLE, Int.reduceLT, Int.reduceNeg, Int.reduceToNat, Int.cast_ofNat_Int, exists_and_left, exists_eq_left', exists_eq_left, exists_eq', not_true_eq_false, not_false_eq_true, Int.toNat_natCast, Nat.reduceLT, Nat.reduceLeDiff, ne_eq, big, Nat.zero_le, List.length_map, List.getElem?_map, Option.map_some, Option.map_none, Int.reducePow, Nat.reducePow, pw, d10]
      exact hn _ (Int.ediv_nonneg ho (by decide))
    · simp (maxSteps := 2000000) only [wSs, inW, wComp, wFor, wSs_nil, wS, wE, wEs, wO, wC, wI, binW, binI, cmpW, truW, itemW, sliceW, revW, storeW, biW, isT, miW, isL, getL, getD, listW, seqW, walkW, fldW, insW, stfW, getO, putZ, pairW, dgetW, isD, smW, isS, tgt, tgts, wipeZ, grdOk, eqW_int, enter, List.map_cons, List.map_nil, List.length_cons, List.length_nil, List.replicate_succ, List.replicate_zero, Nat.add_sub_cancel, Nat.sub_self, Nat.zero_add, List.cons_append, List.nil_append, List.getElem?_cons_zero, List.getElem?_cons_succ, List.set_cons_zero, List.set_cons_succ, if_true, if_false, ite_true, ite_false, Bool.not_true, Bool.not_false, Bool.true_eq_false, Bool.false_eq_true, true_and, and_true, reduceCtorEq, Option.some.injEq, false_and, and_false, false_or, or_false, true_or, or_true, Nat.reduceAdd, Nat.reduceSub, List.isEmpty_cons, List.isEmpty_nil, beq_self_eq_true, decide_true, decide_false, Bool.false_or, Bool.true_or, Bool.or_false, Bool.or_true, Bool.and_true, Bool.and_false, Bool.true_and, Bool.false_and, reduceIte, dite_true, dite_false, beq_iff_eq, decide_eq_true_eq, bne_iff_ne, ixN_int, Int.reduceLE, Int.reduceLT, Int.reduceNeg, Int.reduceToNat, Int.cast_ofNat_Int, exists_and_left, exists_eq_left', exists_eq_left, exists_eq', not_true_eq_false, not_false_eq_true, Int.toNat_natCast, Nat.reduceLT, Nat.reduceLeDiff, ne_eq, big, Nat.zero_le, List.length_map, List.getElem?_map, Option.map_some, Option.map_none, Int.reducePow, Nat.reducePow, mk]
      exact fin _ _ ho
  | false =>
    have lz : 0 < ns.length := by
      cases ns with
      | nil => cases hns
      | cons _ _ => simp
    have j1 : 0 ≤ k % (ns.length : Int) := Int.emod_nonneg _ (by omega)
    have j2 : k % (ns.length : Int) < ns.length := Int.emod_lt_of_pos _ (by omega)
    have j3 : (k % (ns.length : Int)).toNat < ns.length := by omega
    simp (maxSteps := 2000000) only [wSs, inW, wComp, wFor, wSs_nil, wS, wE, wEs, wO, wC, wI, binW, binI, cmpW, truW, itemW, sliceW, revW, storeW, biW, isT, miW, isL, getL, getD, listW, seqW, walkW, fldW, insW, stfW, getO, putZ, pairW, dgetW, isD, smW, isS, tgt, tgts, wipeZ, grdOk, eqW_int, enter, List.map_cons, List.map_nil, List.length_cons, List.length_nil, List.replicate_succ, List.replicate_zero, Nat.add_sub_cancel, Nat.sub_self, Nat.zero_add, List.cons_append, List.nil_append, List.getElem?_cons_zero, List.getElem?_cons_succ, List.set_cons_zero, List.set_cons_succ, if_true, if_false, ite_true, ite_false, Bool.not_true, Bool.not_false, Bool.true_eq_false, Bool.false_eq_true, true_and, and_true, reduceCtorEq, Option.some.injEq, false_and, and_false, false_or, or_false, true_or, or_true, Nat.reduceAdd, Nat.reduceSub, List.isEmpty_cons, List.isEmpty_nil, beq_self_eq_true, decide_true, decide_false, Bool.false_or, Bool.true_or, Bool.or_false, Bool.or_true, Bool.and_true, Bool.and_false, Bool.true_and, Bool.false_and, reduceIte, dite_true, dite_false, beq_iff_eq, decide_eq_true_eq, bne_iff_ne, ixN_int, Int.reduceLE, Int.reduceLT, Int.reduceNeg, Int.reduceToNat, Int.cast_ofNat_Int, exists_and_left, exists_eq_left', exists_eq_left, exists_eq', not_true_eq_false, not_false_eq_true, Int.toNat_natCast, Nat.reduceLT, Nat.reduceLeDiff, ne_eq, big, Nat.zero_le, List.length_map, List.getElem?_map, Option.map_some, Option.map_none, Int.reducePow, Nat.reducePow, pw, ixN_int j1 j2, List.getElem?_eq_getElem j3]
    refine ⟨by omega, ?_⟩
    split
    · refine ⟨dv, by omega, by omega, loop _ _ _ _ (by omega) _ _ (fun y o h' D' ho hn => ?_) fun y o ho => ?_⟩
      · simp (maxSteps := 2000000) only [wSs, inW, wComp, wFor, wSs_nil, wS, wE, wEs, wO, wC, wI, binW, binI, cmpW, truW, itemW, sliceW, revW, storeW, biW, isT, miW, isL, getL, getD, listW, seqW, walkW, fldW, insW, stfW, getO, putZ, pairW, dgetW, isD, smW, isS, tgt, tgts, wipeZ, grdOk, eqW_int, enter, List.map_cons, List.map_nil, List.length_cons, List.length_nil, List.replicate_succ, List.replicate_zero, Nat.add_sub_cancel, Nat.sub_self, Nat.zero_add, List.cons_append, List.nil_append, List.getElem?_cons_zero, List.getElem?_cons_succ, List.set_cons_zero, List.set_cons_succ, if_true, if_false, ite_true, ite_false, Bool.not_true, Bool.not_false, Bool.true_eq_false, Bool.false_eq_true, true_and, and_true, reduceCtorEq, Option.some.injEq, false_and, and_false, false_or, or_false, true_or, or_true, Nat.reduceAdd, Nat.reduceSub, List.isEmpty_cons, List.isEmpty_nil, beq_self_eq_true, decide_true, decide_false, Bool.false_or, Bool.true_or, Bool.or_false, Bool.or_true, Bool.and_true, Bool.and_false, Bool.true_and, Bool.false_and, reduceIte, dite_true, dite_false, beq_iff_eq, decide_eq_true_eq, bne_iff_ne, ixN_int, Int.reduceLE, Int.reduceLT, Int.reduceNeg, Int.reduceToNat, Int.cast_ofNat_Int, exists_and_left, exists_eq_left', exists_eq_left, exists_eq', not_true_eq_false, not_false_eq_true, Int.toNat_natCast, Nat.reduceLT, Nat.reduceLeDiff, ne_eq, big, Nat.zero_le, List.length_map, List.getElem?_map, Option.map_some, Option.map_none, Int.reducePow, Nat.reducePow, pw, d10]
        exact hn _ (Int.ediv_nonneg ho (by decide))
      · simp (maxSteps := 2000000) only [wSs, inW, wComp, wFor, wSs_nil, wS, wE, wEs, wO, wC, wI, binW, binI, cmpW, truW, itemW, sliceW, revW, storeW, biW, isT, miW, isL, getL, getD, listW, seqW, walkW, fldW, insW, stfW, getO, putZ, pairW, dgetW, isD, smW, isS, tgt, tgts, wipeZ, grdOk, eqW_int, enter, List.map_cons, List.map_nil, List.length_cons, List.length_nil, List.replicate_succ, List.replicate_zero, Nat.add_sub_cancel, Nat.sub_self, Nat.zero_add, List.cons_append, List.nil_append, List.getElem?_cons_zero, List.getElem?_cons_succ, List.set_cons_zero, List.set_cons_succ, if_true, if_false, ite_true, ite_false, Bool.not_true, Bool.not_false, Bool.true_eq_false, Bool.false_eq_true, true_and, and_true, reduceCtorEq, Option.some.injEq, false_and, and_false, false_or, or_false, true_or, or_true, Nat.reduceAdd, Nat.reduceSub, List.isEmpty_cons, List.isEmpty_nil, beq_self_eq_true, decide_true, decide_false, Bool.false_or, Bool.true_or, Bool.or_false, Bool.or_true, Bool.and_true, Bool.and_false, Bool.true_and, Bool.false_and, reduceIte, dite_true, dite_false, beq_iff_eq, decide_eq_true_eq, bne_iff_ne, ixN_int, Int.reduceLE, Int.reduceLT, Int.reduceNeg, Int.reduceToNat, Int.cast_ofNat_Int, exists_and_left, exists_eq_left', exists_eq_left, exists_eq', not_true_eq_false, not_false_eq_true, Int.toNat_natCast, Nat.reduceLT, Nat.reduceLeDiff, ne_eq, big, Nat.zero_le, List.length_map, List.getElem?_map, Option.map_some, Option.map_none, Int.reducePow, Nat.reducePow, mk]
        exact fin _ _ ho
    · refine ⟨dv, by omega, by omega, loop _ _ _ _ (by omega) _ _ (fun y o h' D' ho hn => ?_) fun y o ho => ?_⟩
      · simp (maxSteps := 2000000) only [wSs, inW, wComp, wFor, wSs_nil, wS, wE, wEs, wO, wC, wI, binW, binI, cmpW, truW, itemW, sliceW, revW, storeW, biW, isT, miW, isL, getL, getD, listW, seqW, walkW, fldW, insW, stfW, getO, putZ, pairW, dgetW, isD, smW, isS, tgt, tgts, wipeZ, grdOk, eqW_int, enter, List.map_cons, List.map_nil, List.length_cons, List.length_nil, List.replicate_succ, List.replicate_zero, Nat.add_sub_cancel, Nat.sub_self, Nat.zero_add, List.cons_append, List.nil_append, List.getElem?_cons_zero, List.getElem?_cons_succ, List.set_cons_zero, List.set_cons_succ, if_true, if_false, ite_true, ite_false, Bool.not_true, Bool.not_false, Bool.true_eq_false, Bool.false_eq_true, true_and, and_true, reduceCtorEq, Option.some.injEq, false_and, and_false, false_or, or_false, true_or, or_true, Nat.reduceAdd, Nat.reduceSub, List.isEmpty_cons, List.isEmpty_nil, beq_self_eq_true, decide_true, decide_false, Bool.false_or, Bool.true_or, Bool.or_false, Bool.or_true, Bool.and_true, Bool.and_false, Bool.true_and, Bool.false_and, reduceIte, dite_true, dite_false, beq_iff_eq, decide_eq_true_eq, bne_iff_ne, ixN_int, Int.reduceLE, Int.reduceLT, Int.reduceNeg, Int.reduceToNat, Int.cast_ofNat_Int, exists_and_left, exists_eq_left', exists_eq_left, exists_eq', not_true_eq_false, not_false_eq_true, Int.toNat_natCast, Nat.reduceLT, Nat.reduceLeDiff, ne_eq, big, Nat.zero_le, List.length_map, List.getElem?_map, Option.map_some, Option.map_none, Int.reducePow, Nat.reducePow, pw, d10]
        exact hn _ (Int.ediv_nonneg ho (by decide))
      · simp (maxSteps := 2000000) only [wSs, inW, wComp, wFor, wSs_nil, wS, wE, wEs, wO, wC, wI, binW, binI, cmpW, truW, itemW, sliceW, revW, storeW, biW, isT, miW, isL, getL, getD, listW, seqW, walkW, fldW, insW, stfW, getO, putZ, pairW, dgetW, isD, smW, isS, tgt, tgts, wipeZ, grdOk, eqW_int, enter, List.map_cons, List.map_nil, List.length_cons, List.length_nil, List.replicate_succ, List.replicate_zero, Nat.add_sub_cancel, Nat.sub_self, Nat.zero_add, List.cons_append, List.nil_append, List.getElem?_cons_zero, List.getElem?_cons_succ, List.set_cons_zero, List.set_cons_succ, if_true, if_false, ite_true, ite_false, Bool.not_true, Bool.not_false, Bool.true_eq_false, Bool.false_eq_true, true_and, and_true, reduceCtorEq, Option.some.injEq, false_and, and_false, false_or, or_false, true_or, or_true, Nat.reduceAdd, Nat.reduceSub, List.isEmpty_cons, List.isEmpty_nil, beq_self_eq_true, decide_true, decide_false, Bool.false_or, Bool.true_or, Bool.or_false, Bool.or_true, Bool.and_true, Bool.and_false, Bool.true_and, Bool.false_and, reduceIte, dite_true, dite_false, beq_iff_eq, decide_eq_true_eq, bne_iff_ne, ixN_int, Int.reduceLE, Int.reduceLT, Int.reduceNeg, Int.reduceToNat, Int.cast_ofNat_Int, exists_and_left, exists_eq_left', exists_eq_left, exists_eq', not_true_eq_false, not_false_eq_true, Int.toNat_natCast, Nat.reduceLT, Nat.reduceLeDiff, ne_eq, big, Nat.zero_le, List.length_map, List.getElem?_map, Option.map_some, Option.map_none, Int.reducePow, Nat.reducePow, mk]
        exact fin _ _ ho
/-! draws as heaps go on -/
theorem IsDraw.lt {h : Hep} {d : Nat} {B : Int} (a : IsDraw h d B) : d < h.length := by
  obtain ⟨_, _, _, e, _⟩ := a
  exact lt_of_get e
theorem IsDraw.app {h j : Hep} {d : Nat} {B : Int} (a : IsDraw h d B) : IsDraw (h ++ j) d B := by
  obtain ⟨c, n, o, e, r⟩ := a
  exact ⟨c, n, o, app_get e, r⟩
theorem IsDraw.set {h : Hep} {d r : Nat} {o : Ob} {B : Int} (a : IsDraw h d B) (n : d ≠ r) : IsDraw (h.set r o) d B := by
  obtain ⟨c, n', o', e, r'⟩ := a
  exact ⟨c, n', o', by rw [List.getElem?_set_ne (Ne.symm n)]; exact e, r'⟩
theorem IsDraw.le {h : Hep} {d : Nat} {B B' : Int} (a : IsDraw h d B) (l : B ≤ B') : IsDraw h d B' := by
  obtain ⟨c, n', o', e, r', r2, r3⟩ := a
  exact ⟨c, n', o', e, r', by omega, r3⟩
theorem nextB {h h' : Hep} {d : Nat} (l : h'.length = h.length) (e : ∀ q, q ≠ d → h'[q]? = h[q]?) : ExtB d h h' := ⟨by omega, fun q o n k => by rw [e q n]; exact k⟩
end Com

namespace Law
open PySem L2 Z
def top (i : Nat) : Stmt := PySem.Challenge.pw_boundsmith_k80_as_hard_in_each_point.main.body.getD i (.Pass ⟨0, 0, 0, 0⟩)
def cs : List (Str × PV) := []
/-! has_task: slots 0=one 1=other 2=needs 3=good 4=many; callees  -/
abbrev s_has_task : Stmt := top 1
def ir_has_task : List Sm := [
  .ife (.or (.cmp .Lt (.idx (.var 1) (.int 1)) (.idx (.var 0) (.int 1))) (.or (.cmp .NotEq (.idx (.var 1) (.int 2)) (.idx (.var 0) (.int 2))) (.cmp .Lt (.idx (.var 1) (.int 4)) (.idx (.var 0) (.int 4))))) [.ret (.bl false)] [],
  .ife (.or (.and (.cmp .IsNot (.idx (.var 0) (.int 5)) .non) (.or (.cmp .Is (.idx (.var 1) (.int 5)) .non) (.cmp .Gt (.idx (.var 1) (.int 5)) (.idx (.var 0) (.int 5))))) (.and (.cmp .Eq (.idx (.var 1) (.int 6)) (.int 0)) (.cmp .Gt (.idx (.var 0) (.int 6)) (.int 0)))) [.ret (.bl false)] [],
  .set (.nm 2) (.bi .dict [(.idx (.var 1) (.int 3))]),
  .ret (.bi .all [(.comp [3, 4] (.tp [(.nm 3), (.nm 4)]) (.wlk (.idx (.var 0) (.int 3))) none (.cmp .GtE (.dg2 (.var 2) (.var 3) (.int 0)) (.var 4)))])]
theorem sc_has_task : FnScope ["one", "other", "needs", "good", "many"] ["one", "other"] (defScope s_has_task) := ⟨rfl, rfl, rfl, by decide +kernel, rfl, by decide +kernel, by decide +kernel⟩
theorem lk_has_task : mtSs [] cs ["one", "other", "needs", "good", "many"] (defScope s_has_task) ir_has_task (defBody s_has_task) = true := by decide +kernel
/-! has_waits: slots 0=one 1=other 2=a 3=b 4=gap 5=wait; callees  -/
abbrev s_has_waits : Stmt := top 2
def ir_has_waits : List Sm := [
  .for_ (.tp [(.nm 2), (.nm 3), (.nm 4)]) (.wlk (.var 0)) [.ife (.not (.bi .any [(.comp [5] (.nm 5) (.wlk (.var 1)) none (.and (.cmp .Eq (.slc (.var 5) none (some (.int 2))) (.tup [(.var 2), (.var 3)])) (.cmp .GtE (.idx (.var 5) (.int 2)) (.var 4))))])) [.ret (.bl false)] []],
  .ret (.bl true)]
theorem sc_has_waits : FnScope ["one", "other", "a", "b", "gap", "wait"] ["one", "other"] (defScope s_has_waits) := ⟨rfl, rfl, rfl, by decide +kernel, rfl, by decide +kernel, by decide +kernel⟩
theorem lk_has_waits : mtSs [] cs ["one", "other", "a", "b", "gap", "wait"] (defScope s_has_waits) ir_has_waits (defBody s_has_waits) = true := by decide +kernel
/-! is_harder: slots 0=book 1=other 2=there 3=good 4=many 5=task 6=row 7=pair; callees 0=has_task 1=has_waits -/
abbrev s_is_harder : Stmt := top 3
def ir_is_harder : List Sm := [
  .ife (.or (.cmp .NotEq (.idx (.var 1) (.int 0)) (.idx (.var 0) (.int 0))) (.cmp .Lt (.bi .len [(.idx (.var 1) (.int 2))]) (.bi .len [(.idx (.var 0) (.int 2))]))) [.ret (.bl false)] [],
  .set (.nm 2) (.bi .dict [(.idx (.var 1) (.int 1))]),
  .ife (.not (.bi .all [(.comp [3, 4] (.tp [(.nm 3), (.nm 4)]) (.wlk (.idx (.var 0) (.int 1))) none (.cmp .LtE (.dg2 (.var 2) (.var 3) (.int 100)) (.var 4)))])) [.ret (.bl false)] [],
  .ife (.not (.bi .all [(.comp [5, 6] (.tp [(.nm 5), (.nm 6)]) (.enum (.idx (.var 0) (.int 2))) none (.call 0 [(.var 6), (.idx (.idx (.var 1) (.int 2)) (.var 5))]))])) [.ret (.bl false)] [],
  .ret (.and (.call 1 [(.idx (.var 0) (.int 3)), (.idx (.var 1) (.int 3))]) (.bi .all [(.comp [7] (.nm 7) (.wlk (.idx (.var 0) (.int 4))) none (.cmp .In (.var 7) (.idx (.var 1) (.int 4))))]))]
theorem sc_is_harder : FnScope ["book", "other", "there", "good", "many", "task", "row", "pair"] ["book", "other"] (defScope s_is_harder) := ⟨rfl, rfl, rfl, by decide +kernel, rfl, by decide +kernel, by decide +kernel⟩
theorem lk_is_harder : mtSs ["has_task", "has_waits"] cs ["book", "other", "there", "good", "many", "task", "row", "pair"] (defScope s_is_harder) ir_is_harder (defBody s_is_harder) = true := by decide +kernel
/-! _law_number: slots 0=_law_script 1=_law_k 2=_law_cell 3=_law_left 4=_law_turn 5=_law_more; callees  -/
abbrev s__law_number : Stmt := top 5
def ir__law_number : List Sm := [
  .set (.nm 2) (.int 1),
  .ife (.cmp .Gt (.bi .len [(.var 0)]) (.int 0)) [.set (.nm 2) (.idx (.var 0) (.bin .Mod (.var 1) (.bi .len [(.var 0)]))), .set (.nm 3) (.var 2), .for_ (.nm 4) (.rng1 (.bin .Mult (.bin .Mod (.bin .FloorDiv (.var 1) (.bi .len [(.var 0)])) (.int 60)) (.bi .int [(.cmp .Eq (.bin .Mod (.idx (.var 0) (.int 0)) (.int 2)) (.int 1))]))) [.set (.nm 3) (.bin .FloorDiv (.var 3) (.int 2147483629))], .ife (.and (.cmp .Eq (.bin .Mod (.idx (.var 0) (.int 0)) (.int 2)) (.int 1)) (.cmp .Gt (.var 3) (.int 0))) [.ret (.bin .Mod (.var 3) (.int 2147483629))] []] [],
  .set (.nm 5) (.bin .Add (.var 1) (.int 3)),
  .ret (.bin .Mod (.bin .Mult (.bin .Mod (.bin .Add (.bin .Mult (.bin .Mod (.var 2) (.int 2147483629)) (.int 48271)) (.bin .Mult (.bin .Mult (.var 5) (.var 5)) (.int 69621))) (.int 2147483647)) (.int 16807)) (.int 2147483629))]
theorem sc__law_number : FnScope ["_law_script", "_law_k", "_law_cell", "_law_left", "_law_turn", "_law_more"] ["_law_script", "_law_k"] (defScope s__law_number) := ⟨rfl, rfl, rfl, by decide +kernel, rfl, by decide +kernel, by decide +kernel⟩
theorem lk__law_number : mtSs [] cs ["_law_script", "_law_k", "_law_cell", "_law_left", "_law_turn", "_law_more"] (defScope s__law_number) ir__law_number (defBody s__law_number) = true := by decide +kernel
/-! _law_task: slots 0=_law_script 1=_law_k 2=_law_machines 3=_law_goods 4=_law_number_here 5=_law_machine 6=_law_needs 7=_law_j 8=_law_row 9=_law_first 10=_law_by; callees 0=_law_number -/
abbrev s__law_task : Stmt := top 6
def ir__law_task : List Sm := [
  .set (.nm 4) (.call 0 [(.var 0), (.var 1)]),
  .set (.nm 5) (.idx (.bin .Add (.xtp [(.str "")]) (.var 2)) (.bin .Mod (.bin .FloorDiv (.var 4) (.int 6)) (.bin .Add (.bi .len [(.var 2)]) (.int 1)))),
  .set (.nm 6) (.lst []),
  .for_ (.tp [(.nm 7), (.nm 8)]) (.enum (.var 3)) [.ife (.cmp .Gt (.bin .Mod (.bin .FloorDiv (.var 4) (.idx (.lst [(.int 20), (.int 23), (.int 29), (.int 31)]) (.var 7))) (.int 3)) (.int 0)) [.exp (.mi .append (.var 6) [(.xtp [(.idx (.var 8) (.int 0)), (.bin .Add (.int 1) (.bin .Mod (.bin .FloorDiv (.var 4) (.idx (.lst [(.int 60), (.int 77), (.int 89), (.int 97)]) (.var 7))) (.idx (.var 8) (.int 1))))])])] []],
  .set (.nm 9) (.idx (.lst [(.int 0), (.int 0), (.bin .Mod (.bin .FloorDiv (.var 4) (.int 400)) (.int 7))]) (.bin .Mod (.bin .FloorDiv (.var 4) (.int 200)) (.int 3))),
  .set (.nm 10) (.idx (.lst [.non, (.bin .Mod (.bin .FloorDiv (.var 4) (.int 3000)) (.int 20)), (.bin .Mod (.bin .FloorDiv (.var 4) (.int 3000)) (.int 9))]) (.bin .Mod (.bin .FloorDiv (.var 4) (.int 7000)) (.int 3))),
  .ret (.xtp [(.bin .Add (.int 1) (.bin .Mod (.var 4) (.int 6))), (.var 5), (.bi .xtuple [(.var 6)]), (.var 9), (.var 10), (.bin .Mod (.bin .FloorDiv (.var 4) (.int 30000)) (.int 3))])]
theorem sc__law_task : FnScope ["_law_script", "_law_k", "_law_machines", "_law_goods", "_law_number_here", "_law_machine", "_law_needs", "_law_j", "_law_row", "_law_first", "_law_by"] ["_law_script", "_law_k", "_law_machines", "_law_goods"] (defScope s__law_task) := ⟨rfl, rfl, rfl, by decide +kernel, rfl, by decide +kernel, by decide +kernel⟩
theorem lk__law_task : mtSs ["_law_number"] cs ["_law_script", "_law_k", "_law_machines", "_law_goods", "_law_number_here", "_law_machine", "_law_needs", "_law_j", "_law_row", "_law_first", "_law_by"] (defScope s__law_task) ir__law_task (defBody s__law_task) = true := by decide +kernel
/-! _law_book: slots 0=_law_script 1=_law_k 2=_law_many 3=_law_number_here 4=_law_machines 5=_law_stock 6=_law_goods 7=_law_j 8=_law_tasks 9=_law_waits 10=_law_i 11=_law_row 12=_law_name 13=_law_more 14=_law_fixed 15=_law_at; callees 0=_law_number 1=_law_task -/
abbrev s__law_book : Stmt := top 7
def ir__law_book : List Sm := [
  .set (.nm 3) (.call 0 [(.var 0), (.var 1)]),
  .set (.nm 4) (.bi .xtuple [(.slc (.slc (.bin .Mult (.lst [(.str "saw"), (.str "m"), (.str "lathe"), (.str "n")]) (.int 2)) (some (.bin .Mod (.bin .FloorDiv (.var 3) (.int 5)) (.int 4))) none) none (some (.idx (.lst [(.int 0), (.int 1), (.int 2), (.int 4)]) (.bin .Mod (.var 3) (.int 4)))))]),
  .set (.nm 5) (.slc (.bin .Mult (.lst [(.str "room"), (.str "hand"), (.str "b"), (.str "zinc")]) (.int 2)) (some (.bin .Mod (.bin .FloorDiv (.var 3) (.int 11)) (.int 4))) none),
  .set (.nm 6) (.lst []),
  .for_ (.nm 7) (.rng1 (.idx (.lst [(.int 0), (.int 1), (.int 2), (.int 4)]) (.bin .Mod (.bin .FloorDiv (.var 3) (.int 9)) (.int 4)))) [.exp (.mi .append (.var 6) [(.xtp [(.idx (.var 5) (.var 7)), (.bin .Add (.int 1) (.bin .Mod (.bin .FloorDiv (.var 3) (.idx (.lst [(.int 3), (.int 27), (.int 43), (.int 61)]) (.var 7))) (.idx (.lst [(.int 3), (.int 2), (.int 3), (.int 2)]) (.var 7))))])])],
  .set (.nm 8) (.lst []),
  .set (.nm 9) (.lst []),
  .for_ (.nm 10) (.rng1 (.var 2)) [.set (.nm 11) (.call 1 [(.var 0), (.bin .Add (.bin .Add (.var 1) (.int 1)) (.var 10)), (.var 4), (.var 6)]), .set (.nm 12) (.bin .Add (.idx (.idx (.lst [(.str "abcdefgh"), (.str "hcfbgdae"), (.str "dahgcfbe")]) (.bin .Mod (.bin .FloorDiv (.var 3) (.int 7)) (.int 3))) (.var 10)) (.idx (.lst [(.str ""), (.str "x"), (.str "yy")]) (.bin .Mod (.bin .Add (.bin .FloorDiv (.var 3) (.int 13)) (.var 10)) (.int 3)))), .exp (.mi .append (.var 8) [(.bin .Add (.bin .Add (.xtp [(.var 12)]) (.slc (.var 11) none (some (.int 5)))) (.xtp [(.bi .max2 [(.idx (.var 11) (.int 5)), (.bi .int [(.cmp .Eq (.var 10) (.int 0))])])]))]), .for_ (.nm 7) (.rng1 (.var 10)) [.set (.nm 13) (.call 0 [(.var 0), (.bin .Add (.bin .Add (.bin .Add (.var 1) (.int 20)) (.bin .Mult (.int 8) (.var 10))) (.var 7))]), .ife (.cmp .Eq (.bin .Mod (.var 13) (.int 5)) (.int 1)) [.exp (.mi .append (.var 9) [(.xtp [(.var 7), (.var 10), (.bin .Mod (.bin .FloorDiv (.var 13) (.int 5)) (.int 3))])])] []]],
  .sto (.var 8) (.neg (.int 1)) (.bin .Add (.bin .Add (.slc (.idx (.var 8) (.neg (.int 1))) none (some (.int 5))) (.xtp [(.bin .Add (.int 5) (.bin .Mod (.bin .FloorDiv (.var 3) (.int 40)) (.int 20)))])) (.slc (.idx (.var 8) (.neg (.int 1))) (some (.int 6)) none)),
  .set (.nm 14) (.xtp []),
  .ife (.cmp .Eq (.bin .Mod (.bin .FloorDiv (.var 3) (.int 32000)) (.int 4)) (.int 1)) [.set (.nm 15) (.bin .Mod (.bin .FloorDiv (.var 3) (.int 400)) (.var 2)), .set (.nm 14) (.xtp [(.xtp [(.var 15), (.bin .Add (.idx (.idx (.var 8) (.var 15)) (.int 4)) (.bin .Mod (.bin .FloorDiv (.var 3) (.int 4000)) (.int 5)))])])] [],
  .ret (.xtp [(.var 4), (.bi .xtuple [(.var 6)]), (.bi .xtuple [(.var 8)]), (.bi .xtuple [(.var 9)]), (.var 14)])]
theorem sc__law_book : FnScope ["_law_script", "_law_k", "_law_many", "_law_number_here", "_law_machines", "_law_stock", "_law_goods", "_law_j", "_law_tasks", "_law_waits", "_law_i", "_law_row", "_law_name", "_law_more", "_law_fixed", "_law_at"] ["_law_script", "_law_k", "_law_many"] (defScope s__law_book) := ⟨rfl, rfl, rfl, by decide +kernel, rfl, by decide +kernel, by decide +kernel⟩
theorem lk__law_book : mtSs ["_law_number", "_law_task"] cs ["_law_script", "_law_k", "_law_many", "_law_number_here", "_law_machines", "_law_stock", "_law_goods", "_law_j", "_law_tasks", "_law_waits", "_law_i", "_law_row", "_law_name", "_law_more", "_law_fixed", "_law_at"] (defScope s__law_book) ir__law_book (defBody s__law_book) = true := by decide +kernel
/-! _law_harder_row: slots 0=_law_script 1=_law_k 2=_law_row 3=_law_is_held 4=_law_stock 5=_law_number_here 6=_law_name 7=_law_length 8=_law_machine 9=_law_needs 10=_law_first 11=_law_due_here 12=_law_weight 13=_law_found 14=_law_good 15=_law_many; callees 0=_law_number -/
abbrev s__law_harder_row : Stmt := top 8
def ir__law_harder_row : List Sm := [
  .set (.nm 5) (.call 0 [(.var 0), (.var 1)]),
  .set (.tp [(.nm 6), (.nm 7), (.nm 8), (.nm 9), (.nm 10), (.nm 11), (.nm 12)]) (.var 2),
  .set (.nm 13) (.lst []),
  .for_ (.tp [(.nm 14), (.nm 15)]) (.wlk (.var 9)) [.exp (.mi .append (.var 13) [(.xtp [(.var 14), (.bi .min2 [(.idx (.var 4) (.var 14)), (.bin .Add (.var 15) (.bin .Mod (.var 5) (.int 2)))])])])],
  .lcs 4 (.for_ (.nm 14) (.wld 4) [.ife (.and (.cmp .NotIn (.var 14) (.bi .dict [(.var 9)])) (.cmp .Eq (.bin .Mod (.bin .FloorDiv (.var 5) (.int 2)) (.int 5)) (.int 1))) [.exp (.mi .append (.var 13) [(.xtp [(.var 14), (.int 1)])])] []]),
  .set (.nm 7) (.bi .min2 [(.int 1000), (.bin .Add (.var 7) (.idx (.lst [(.int 0), (.bin .Mod (.bin .FloorDiv (.var 5) (.int 10)) (.int 4))]) (.bin .Mod (.bin .FloorDiv (.var 5) (.int 40)) (.int 2))))]),
  .ife (.not (.var 3)) [.set (.nm 10) (.bin .Add (.var 10) (.idx (.lst [(.int 0), (.bin .Mod (.bin .FloorDiv (.var 5) (.int 80)) (.int 6))]) (.bin .Mod (.bin .FloorDiv (.var 5) (.int 480)) (.int 2))))] [],
  .ife (.cmp .Is (.var 11) .non) [.set (.nm 11) (.idx (.lst [.non, .non, (.bin .Mod (.bin .FloorDiv (.var 5) (.int 1000)) (.int 30))]) (.bin .Mod (.bin .FloorDiv (.var 5) (.int 30000)) (.int 3)))] [.set (.nm 11) (.bi .max2 [(.int 0), (.bin .Sub (.var 11) (.idx (.lst [(.int 0), (.bin .Mod (.bin .FloorDiv (.var 5) (.int 1000)) (.int 5))]) (.bin .Mod (.bin .FloorDiv (.var 5) (.int 5000)) (.int 2))))])],
  .ret (.xtp [(.var 6), (.var 7), (.var 8), (.bi .xtuple [(.var 13)]), (.var 10), (.var 11), (.bi .max2 [(.var 12), (.bin .Mod (.bin .FloorDiv (.var 5) (.int 60000)) (.int 2))])])]
theorem sc__law_harder_row : FnScope ["_law_script", "_law_k", "_law_row", "_law_is_held", "_law_stock", "_law_number_here", "_law_name", "_law_length", "_law_machine", "_law_needs", "_law_first", "_law_due_here", "_law_weight", "_law_found", "_law_good", "_law_many"] ["_law_script", "_law_k", "_law_row", "_law_is_held", "_law_stock"] (defScope s__law_harder_row) := ⟨rfl, rfl, rfl, by decide +kernel, rfl, by decide +kernel, by decide +kernel⟩
theorem lk__law_harder_row : mtSs ["_law_number"] cs ["_law_script", "_law_k", "_law_row", "_law_is_held", "_law_stock", "_law_number_here", "_law_name", "_law_length", "_law_machine", "_law_needs", "_law_first", "_law_due_here", "_law_weight", "_law_found", "_law_good", "_law_many"] (defScope s__law_harder_row) ir__law_harder_row (defBody s__law_harder_row) = true := by decide +kernel
/-! _law_harder: slots 0=_law_script 1=_law_k 2=_law_book_here 3=_law_machines 4=_law_goods 5=_law_tasks 6=_law_waits 7=_law_fixed 8=_law_held 9=_law_task_here 10=_law_begin 11=_law_number_here 12=_law_rows 13=_law_row 14=_law_stock 15=_law_good 16=_law_many 17=_law_wanted 18=_law_j 19=_law_more 20=_law_machine 21=_law_name 22=_law_some 23=_law_a 24=_law_b 25=_law_gap 26=_law_kept 27=_law_at; callees 0=_law_number 1=_law_harder_row -/
abbrev s__law_harder : Stmt := top 9
def ex__law_harder_0 : Ex := (.xtp [(.var 23), (.var 24), (.bin .Add (.var 25) (.idx (.lst [(.int 0), (.bin .Mod (.bin .FloorDiv (.var 11) (.int 9)) (.int 3))]) (.bin .Mod (.bin .Add (.var 23) (.var 24)) (.int 2))))])
def ir__law_harder : List Sm := [
  .set (.tp [(.nm 3), (.nm 4), (.nm 5), (.nm 6), (.nm 7)]) (.var 2),
  .set (.nm 8) (.comp [9, 10] (.tp [(.nm 9), (.nm 10)]) (.wlk (.var 7)) none (.var 9)),
  .set (.nm 11) (.call 0 [(.var 0), (.var 1)]),
  .set (.nm 12) (.lst []),
  .for_ (.tp [(.nm 9), (.nm 13)]) (.enum (.var 5)) [.exp (.mi .append (.var 12) [(.call 1 [(.var 0), (.bin .Add (.bin .Add (.var 1) (.int 1)) (.var 9)), (.var 13), (.cmp .In (.var 9) (.var 8)), (.bi .dict [(.var 4)])])])],
  .set (.nm 14) (.lst []),
  .for_ (.tp [(.nm 15), (.nm 16)]) (.wlk (.var 4)) [.set (.nm 17) (.bi .maxl [(.bin .Add (.lst [(.int 1)]) (.comp [13] (.nm 13) (.wlk (.var 12)) none (.dg2 (.bi .dict [(.idx (.var 13) (.int 3))]) (.var 15) (.int 0))))]), .exp (.mi .append (.var 14) [(.xtp [(.var 15), (.bi .max2 [(.var 17), (.bin .Sub (.var 16) (.bin .Mod (.var 11) (.int 3)))])])])],
  .for_ (.nm 18) (.rng1 (.bin .Mod (.bin .FloorDiv (.var 11) (.int 3)) (.int 3))) [.set (.nm 19) (.call 0 [(.var 0), (.bin .Add (.bin .Add (.var 1) (.int 10)) (.var 18))]), .set (.nm 20) (.idx (.bin .Add (.var 3) (.xtp [(.str "")])) (.bin .Mod (.bin .FloorDiv (.var 19) (.int 5)) (.bin .Add (.bi .len [(.var 3)]) (.int 1)))), .set (.nm 21) (.bin .Add (.str "new") (.idx (.str "abcdefghijklmnopqrstuvwxyz") (.bi .len [(.var 12)]))), .exp (.mi .append (.var 12) [(.xtp [(.var 21), (.bin .Add (.int 1) (.bin .Mod (.var 19) (.int 5))), (.var 20), (.xtp []), (.bin .Mod (.bin .FloorDiv (.var 19) (.int 20)) (.int 9)), .non, (.int 1)])])],
  .set (.nm 22) (.comp [23, 24, 25] (.tp [(.nm 23), (.nm 24), (.nm 25)]) (.wlk (.var 6)) none ex__law_harder_0),
  .for_ (.nm 18) (.rng1 (.bin .Mod (.bin .FloorDiv (.var 11) (.int 30)) (.int 3))) [.set (.nm 19) (.call 0 [(.var 0), (.bin .Add (.bin .Add (.var 1) (.int 14)) (.var 18))]), .set (.nm 23) (.bin .Mod (.var 19) (.bin .Sub (.bi .len [(.var 12)]) (.int 1))), .exp (.mi .append (.var 22) [(.xtp [(.var 23), (.bin .Add (.bin .Add (.var 23) (.int 1)) (.bin .Mod (.bin .FloorDiv (.var 19) (.int 10)) (.bin .Sub (.bin .Sub (.bi .len [(.var 12)]) (.int 1)) (.var 23)))), (.bin .Mod (.bin .FloorDiv (.var 19) (.int 100)) (.int 4))])])],
  .set (.nm 26) (.bi .list [(.var 7)]),
  .set (.nm 27) (.bin .Mod (.bin .FloorDiv (.var 11) (.int 100)) (.bi .len [(.var 12)])),
  .ife (.and (.cmp .NotIn (.var 27) (.var 8)) (.cmp .Eq (.bin .Mod (.bin .FloorDiv (.var 11) (.int 1000)) (.int 3)) (.int 1))) [.exp (.mi .append (.var 26) [(.xtp [(.var 27), (.bin .Add (.idx (.idx (.var 12) (.var 27)) (.int 4)) (.bin .Mod (.bin .FloorDiv (.var 11) (.int 3000)) (.int 9)))])])] [],
  .ret (.xtp [(.var 3), (.bi .xtuple [(.var 14)]), (.bi .xtuple [(.var 12)]), (.bi .xtuple [(.var 22)]), (.bi .xtuple [(.var 26)])])]
theorem sc__law_harder : FnScope ["_law_script", "_law_k", "_law_book_here", "_law_machines", "_law_goods", "_law_tasks", "_law_waits", "_law_fixed", "_law_held", "_law_task_here", "_law_begin", "_law_number_here", "_law_rows", "_law_row", "_law_stock", "_law_good", "_law_many", "_law_wanted", "_law_j", "_law_more", "_law_machine", "_law_name", "_law_some", "_law_a", "_law_b", "_law_gap", "_law_kept", "_law_at"] ["_law_script", "_law_k", "_law_book_here"] (defScope s__law_harder) := ⟨rfl, rfl, rfl, by decide +kernel, rfl, by decide +kernel, by decide +kernel⟩
theorem lk__law_harder : mtSs ["_law_number", "_law_harder_row"] cs ["_law_script", "_law_k", "_law_book_here", "_law_machines", "_law_goods", "_law_tasks", "_law_waits", "_law_fixed", "_law_held", "_law_task_here", "_law_begin", "_law_number_here", "_law_rows", "_law_row", "_law_stock", "_law_good", "_law_many", "_law_wanted", "_law_j", "_law_more", "_law_machine", "_law_name", "_law_some", "_law_a", "_law_b", "_law_gap", "_law_kept", "_law_at"] (defScope s__law_harder) ir__law_harder (defBody s__law_harder) = true := by decide +kernel
/-! _law_row_due: slots 0=_law_row 1=_law_other 2=_law_good 3=_law_many 4=_law_name 5=_law_much; callees  -/
abbrev s__law_row_due : Stmt := top 10
def ir__law_row_due : List Sm := [
  .ife (.or (.cmp .Lt (.idx (.var 1) (.int 1)) (.idx (.var 0) (.int 1))) (.or (.cmp .NotEq (.idx (.var 1) (.int 2)) (.idx (.var 0) (.int 2))) (.or (.cmp .Lt (.idx (.var 1) (.int 4)) (.idx (.var 0) (.int 4))) (.and (.cmp .Gt (.idx (.var 0) (.int 6)) (.int 0)) (.cmp .Eq (.idx (.var 1) (.int 6)) (.int 0)))))) [.ret (.bl false)] [],
  .ife (.cmp .IsNot (.idx (.var 0) (.int 5)) .non) [.ife (.or (.cmp .Is (.idx (.var 1) (.int 5)) .non) (.cmp .Gt (.idx (.var 1) (.int 5)) (.idx (.var 0) (.int 5)))) [.ret (.bl false)] []] [],
  .for_ (.tp [(.nm 2), (.nm 3)]) (.wlk (.idx (.var 0) (.int 3))) [.ife (.cmp .Eq (.comp [4, 5] (.tp [(.nm 4), (.nm 5)]) (.wlk (.idx (.var 1) (.int 3))) (some (.and (.cmp .Eq (.var 4) (.var 2)) (.cmp .GtE (.var 5) (.var 3)))) (.var 5)) (.lst [])) [.ret (.bl false)] []],
  .ret (.bl true)]
theorem sc__law_row_due : FnScope ["_law_row", "_law_other", "_law_good", "_law_many", "_law_name", "_law_much"] ["_law_row", "_law_other"] (defScope s__law_row_due) := ⟨rfl, rfl, rfl, by decide +kernel, rfl, by decide +kernel, by decide +kernel⟩
theorem lk__law_row_due : mtSs [] cs ["_law_row", "_law_other", "_law_good", "_law_many", "_law_name", "_law_much"] (defScope s__law_row_due) ir__law_row_due (defBody s__law_row_due) = true := by decide +kernel
/-! _law_due: slots 0=_law_book_here 1=_law_other 2=_law_name 3=_law_many 4=_law_good 5=_law_much 6=_law_task_here 7=_law_row 8=_law_a 9=_law_b 10=_law_gap 11=_law_wait 12=_law_pair; callees 0=_law_row_due -/
abbrev s__law_due : Stmt := top 11
def ir__law_due : List Sm := [
  .ife (.or (.cmp .NotEq (.idx (.var 0) (.int 0)) (.idx (.var 1) (.int 0))) (.cmp .Gt (.bi .len [(.idx (.var 0) (.int 2))]) (.bi .len [(.idx (.var 1) (.int 2))]))) [.ret (.bl false)] [],
  .for_ (.tp [(.nm 2), (.nm 3)]) (.wlk (.idx (.var 0) (.int 1))) [.ife (.cmp .Eq (.comp [4, 5] (.tp [(.nm 4), (.nm 5)]) (.wlk (.idx (.var 1) (.int 1))) (some (.and (.cmp .Eq (.var 4) (.var 2)) (.cmp .LtE (.var 5) (.var 3)))) (.var 5)) (.lst [])) [.ret (.bl false)] []],
  .for_ (.tp [(.nm 6), (.nm 7)]) (.enum (.idx (.var 0) (.int 2))) [.ife (.not (.call 0 [(.var 7), (.idx (.idx (.var 1) (.int 2)) (.var 6))])) [.ret (.bl false)] []],
  .for_ (.tp [(.nm 8), (.nm 9), (.nm 10)]) (.wlk (.idx (.var 0) (.int 3))) [.ife (.cmp .Eq (.comp [11] (.nm 11) (.wlk (.idx (.var 1) (.int 3))) (some (.and (.cmp .Eq (.idx (.var 11) (.int 0)) (.var 8)) (.and (.cmp .Eq (.idx (.var 11) (.int 1)) (.var 9)) (.cmp .GtE (.idx (.var 11) (.int 2)) (.var 10))))) (.var 11)) (.lst [])) [.ret (.bl false)] []],
  .ret (.cmp .Eq (.comp [12] (.nm 12) (.wlk (.idx (.var 0) (.int 4))) (some (.cmp .NotIn (.var 12) (.idx (.var 1) (.int 4)))) (.var 12)) (.lst []))]
theorem sc__law_due : FnScope ["_law_book_here", "_law_other", "_law_name", "_law_many", "_law_good", "_law_much", "_law_task_here", "_law_row", "_law_a", "_law_b", "_law_gap", "_law_wait", "_law_pair"] ["_law_book_here", "_law_other"] (defScope s__law_due) := ⟨rfl, rfl, rfl, by decide +kernel, rfl, by decide +kernel, by decide +kernel⟩
theorem lk__law_due : mtSs ["_law_row_due"] cs ["_law_book_here", "_law_other", "_law_name", "_law_many", "_law_good", "_law_much", "_law_task_here", "_law_row", "_law_a", "_law_b", "_law_gap", "_law_wait", "_law_pair"] (defScope s__law_due) ir__law_due (defBody s__law_due) = true := by decide +kernel
/-! _law_easier_row: slots 0=_law_number_here 1=_law_way 2=_law_row 3=_law_old 4=_law_name 5=_law_length 6=_law_machine 7=_law_needs 8=_law_first 9=_law_due_here 10=_law_weight 11=_law_more 12=_law_good 13=_law_many; callees  -/
abbrev s__law_easier_row : Stmt := top 12
def ir__law_easier_row : List Sm := [
  .set (.tp [(.nm 4), (.nm 5), (.nm 6), (.nm 7), (.nm 8), (.nm 9), (.nm 10)]) (.var 2),
  .set (.nm 11) (.bin .Mod (.bin .FloorDiv (.var 0) (.int 200)) (.int 3)),
  .ife (.cmp .Eq (.var 1) (.int 0)) [.set (.nm 5) (.bi .max2 [(.int 1), (.bin .Sub (.idx (.var 3) (.int 1)) (.bin .Mod (.var 11) (.int 2)))])] [.ife (.cmp .Eq (.var 1) (.int 1)) [.set (.nm 6) (.ife (.cmp .Eq (.var 11) (.int 1)) (.idx (.var 3) (.int 2)) (.str ""))] [.ife (.cmp .Eq (.var 1) (.int 2)) [.set (.nm 7) (.bi .xtuple [(.comp [12, 13] (.tp [(.nm 12), (.nm 13)]) (.wlk (.idx (.var 3) (.int 3))) none (.xtp [(.var 12), (.bi .max2 [(.int 1), (.bin .Sub (.var 13) (.int 1))])]))])] [.ife (.cmp .Eq (.var 1) (.int 3)) [.set (.nm 8) (.bi .max2 [(.int 0), (.bin .Sub (.idx (.var 3) (.int 4)) (.bin .Mod (.var 11) (.int 2)))])] [.ife (.cmp .Eq (.var 1) (.int 4)) [.set (.nm 9) (.ife (.or (.cmp .Is (.idx (.var 3) (.int 5)) .non) (.cmp .Eq (.var 11) (.int 1))) .non (.bin .Add (.idx (.var 3) (.int 5)) (.var 11)))] [.set (.nm 10) (.int 0)]]]]],
  .ret (.xtp [(.var 4), (.var 5), (.var 6), (.var 7), (.var 8), (.var 9), (.var 10)])]
theorem sc__law_easier_row : FnScope ["_law_number_here", "_law_way", "_law_row", "_law_old", "_law_name", "_law_length", "_law_machine", "_law_needs", "_law_first", "_law_due_here", "_law_weight", "_law_more", "_law_good", "_law_many"] ["_law_number_here", "_law_way", "_law_row", "_law_old"] (defScope s__law_easier_row) := ⟨rfl, rfl, rfl, by decide +kernel, rfl, by decide +kernel, by decide +kernel⟩
theorem lk__law_easier_row : mtSs [] cs ["_law_number_here", "_law_way", "_law_row", "_law_old", "_law_name", "_law_length", "_law_machine", "_law_needs", "_law_first", "_law_due_here", "_law_weight", "_law_more", "_law_good", "_law_many"] (defScope s__law_easier_row) ir__law_easier_row (defBody s__law_easier_row) = true := by decide +kernel
/-! _law_easier: slots 0=_law_script 1=_law_k 2=_law_book_here 3=_law_other 4=_law_number_here 5=_law_machines 6=_law_goods 7=_law_tasks 8=_law_waits 9=_law_fixed 10=_law_way 11=_law_task_here 12=_law_row 13=_law_a 14=_law_b 15=_law_gap 16=_law_good 17=_law_many 18=_law_wanted 19=_law_pair 20=_law_moved 21=_law_begin; callees 0=_law_number 1=_law_easier_row -/
abbrev s__law_easier : Stmt := top 13
def ex__law_easier_0 : Ex := (.xtp [(.var 11), (.bi .max2 [(.idx (.idx (.var 7) (.var 11)) (.int 4)), (.bin .Add (.var 21) (.idx (.lst [(.int 1), (.int 5), (.neg (.int 1))]) (.bin .Mod (.bin .FloorDiv (.var 4) (.int 200)) (.int 3))))])])
def ir__law_easier : List Sm := [
  .set (.nm 4) (.call 0 [(.var 0), (.var 1)]),
  .set (.tp [(.nm 5), (.nm 6), (.nm 7), (.nm 8), (.nm 9)]) (.var 3),
  .set (.nm 10) (.bin .Mod (.var 4) (.int 13)),
  .ife (.cmp .Lt (.var 10) (.int 6)) [.set (.nm 11) (.bin .Mod (.bin .FloorDiv (.var 4) (.int 12)) (.bi .len [(.idx (.var 2) (.int 2))])), .set (.nm 12) (.call 1 [(.var 4), (.var 10), (.idx (.var 7) (.var 11)), (.idx (.idx (.var 2) (.int 2)) (.var 11))]), .set (.nm 7) (.bin .Add (.bin .Add (.slc (.var 7) none (some (.var 11))) (.xtp [(.var 12)])) (.slc (.var 7) (some (.bin .Add (.var 11) (.int 1))) none))] [.ife (.cmp .Eq (.var 10) (.int 6)) [.set (.nm 8) (.bi .xtuple [(.comp [13, 14, 15] (.tp [(.nm 13), (.nm 14), (.nm 15)]) (.wlk (.idx (.var 2) (.int 3))) none (.xtp [(.var 13), (.var 14), (.bi .max2 [(.int 0), (.bin .Sub (.var 15) (.int 1))])]))])] [.ife (.cmp .Eq (.var 10) (.int 7)) [.set (.nm 8) (.slc (.var 8) (some (.int 1)) none)] [.ife (.cmp .Eq (.var 10) (.int 8)) [.set (.nm 9) (.slc (.var 9) (some (.int 1)) none)] [.ife (.cmp .Eq (.var 10) (.int 9)) [.set (.nm 6) (.bi .xtuple [(.comp [16, 17] (.tp [(.nm 16), (.nm 17)]) (.wlk (.idx (.var 2) (.int 1))) none (.xtp [(.var 16), (.bin .Add (.var 17) (.bin .Mod (.bin .FloorDiv (.var 4) (.int 200)) (.int 2)))]))]), .set (.nm 18) (.comp [16, 17] (.tp [(.nm 16), (.nm 17)]) (.wlk (.var 6)) (some (.cmp .NotEq (.comp [12] (.nm 12) (.wlk (.var 7)) (some (.cmp .In (.var 16) (.bi .dict [(.idx (.var 12) (.int 3))]))) (.var 12)) (.lst []))) (.var 16)), .ife (.cmp .Eq (.bin .Mod (.bin .FloorDiv (.var 4) (.int 400)) (.int 2)) (.int 1)) [.set (.nm 6) (.bi .xtuple [(.comp [19] (.nm 19) (.wlk (.var 6)) (some (.cmp .In (.idx (.var 19) (.int 0)) (.var 18))) (.var 19))])] []] [.ife (.cmp .Eq (.var 10) (.int 10)) [.set (.tp [(.nm 7), (.nm 8), (.nm 9)]) (.xtp [(.slc (.var 7) none (some (.int 1))), (.xtp []), (.bi .xtuple [(.comp [19] (.nm 19) (.wlk (.var 9)) (some (.cmp .Eq (.idx (.var 19) (.int 0)) (.int 0))) (.var 19))])])] [.ife (.cmp .Eq (.var 10) (.int 11)) [.set (.nm 20) (.comp [11, 21] (.tp [(.nm 11), (.nm 21)]) (.wlk (.slc (.var 9) none (some (.int 1)))) none ex__law_easier_0), .set (.nm 9) (.bin .Add (.bi .xtuple [(.var 20)]) (.slc (.var 9) (some (.int 1)) none))] [.set (.nm 5) (.bin .Add (.var 5) (.xtp [(.str "other")]))]]]]]]],
  .ret (.xtp [(.var 5), (.var 6), (.var 7), (.var 8), (.var 9)])]
theorem sc__law_easier : FnScope ["_law_script", "_law_k", "_law_book_here", "_law_other", "_law_number_here", "_law_machines", "_law_goods", "_law_tasks", "_law_waits", "_law_fixed", "_law_way", "_law_task_here", "_law_row", "_law_a", "_law_b", "_law_gap", "_law_good", "_law_many", "_law_wanted", "_law_pair", "_law_moved", "_law_begin"] ["_law_script", "_law_k", "_law_book_here", "_law_other"] (defScope s__law_easier) := ⟨rfl, rfl, rfl, by decide +kernel, rfl, by decide +kernel, by decide +kernel⟩
theorem lk__law_easier : mtSs ["_law_number", "_law_easier_row"] cs ["_law_script", "_law_k", "_law_book_here", "_law_other", "_law_number_here", "_law_machines", "_law_goods", "_law_tasks", "_law_waits", "_law_fixed", "_law_way", "_law_task_here", "_law_row", "_law_a", "_law_b", "_law_gap", "_law_good", "_law_many", "_law_wanted", "_law_pair", "_law_moved", "_law_begin"] (defScope s__law_easier) ir__law_easier (defBody s__law_easier) = true := by decide +kernel
/-! law: slots 0=_law_script 1=_law_k 2=_law_book_here 3=_law_other 4=_law_some 5=_law_kept 6=_law_one 7=_law_two; callees 0=_law_book 1=_law_number 2=_law_harder 3=_law_easier 4=is_harder 5=_law_due 6=gd: -/
abbrev s_law : Stmt := top 14
def ir_law : List Sm := [
  .for_ (.nm 1) (.rng1 (.bin .Add (.int 1) (.bi .min2 [(.int 30), (.bi .len [(.var 0)])]))) [.set (.nm 2) (.call 0 [(.var 0), (.bin .Mult (.int 100) (.var 1)), (.bin .Add (.int 2) (.bin .Mod (.call 1 [(.var 0), (.bin .Mult (.int 7) (.var 1))]) (.int 4)))]), .set (.nm 3) (.call 2 [(.var 0), (.bin .Add (.bin .Mult (.int 100) (.var 1)) (.int 70)), (.var 2)]), .set (.nm 4) (.call 3 [(.var 0), (.bin .Add (.bin .Mult (.int 100) (.var 1)) (.int 95)), (.var 2), (.var 3)]), .set (.nm 5) (.rep (.lst [(.var 2), (.var 3), (.var 4)])), .ife (.or (.cmp .IsNot (.call 4 [(.var 2), (.var 3)]) (.bl true)) (.cmp .IsNot (.call 4 [(.var 2), (.var 2)]) (.bl true))) [.ret (.bl false)] [], .for_ (.tp [(.nm 6), (.nm 7)]) (.wlk (.xtp [(.xtp [(.var 2), (.var 4)]), (.xtp [(.var 4), (.var 2)]), (.xtp [(.var 3), (.var 2)]), (.xtp [(.var 3), (.var 4)]), (.xtp [(.var 4), (.var 3)])])) [.ife (.cmp .NotEq (.rep (.call 4 [(.var 6), (.var 7)])) (.rep (.call 5 [(.var 6), (.var 7)]))) [.ret (.bl false)] []], .ife (.cmp .NotEq (.rep (.lst [(.var 2), (.var 3), (.var 4)])) (.var 5)) [.ret (.bl false)] []],
  .ret (.bl true)]
theorem sc_law : FnScope ["_law_script", "_law_k", "_law_book_here", "_law_other", "_law_some", "_law_kept", "_law_one", "_law_two"] ["_law_script"] (defScope s_law) := ⟨rfl, rfl, rfl, by decide +kernel, rfl, by decide +kernel, by decide +kernel⟩
theorem lk_law : mtSs ["_law_book", "_law_number", "_law_harder", "_law_easier", "is_harder", "_law_due", .gd] cs ["_law_script", "_law_k", "_law_book_here", "_law_other", "_law_some", "_law_kept", "_law_one", "_law_two"] (defScope s_law) ir_law (defBody s_law) = true := by decide +kernel

end Law

/-! k80b: books, harder in each point; has_task -/
namespace Law
open PySem Z Com
noncomputable def tf (p : Prop) : Bool := @decide p (Classical.propDecidable p)
theorem tf_t {p : Prop} (h : p) : tf p = true := @decide_eq_true p (Classical.propDecidable p) h
theorem tf_f {p : Prop} (h : ¬ p) : tf p = false := @decide_eq_false p (Classical.propDecidable p) h
theorem of_tf {p : Prop} (h : tf p = true) : p := @of_decide_eq_true p (Classical.propDecidable p) h
theorem tf_is {p : Prop} {b : Bool} (h : p ↔ b = true) : tf p = b := by
  cases b with
  | true => exact tf_t (h.mpr rfl)
  | false => exact tf_f fun z => absurd (h.mp z) (by decide)
structure Tk where
  l : Int
  mc : Str
  nd : List (Str × Int)
  fs : Int
  due : Option Int
  wt : Int
def ndV (p : Str × Int) : PV := .itp [.str p.1, .int p.2]
def dueV : Option Int → PV
  | none => .non
  | some d => .int d
def tkV (p : Str × Tk) : PV := .itp [.str p.1, .int p.2.l, .str p.2.mc, .itp (p.2.nd.map ndV), .int p.2.fs, dueV p.2.due, .int p.2.wt]
abbrev Wt := Int × Int × Int
def wtV (w : Wt) : PV := .itp [.int w.1, .int w.2.1, .int w.2.2]
def fxV (p : Int × Int) : PV := .itp [.int p.1, .int p.2]
structure Bk where
  MS : List Str
  G : List (Str × Int)
  NT : List (Str × Tk)
  W : List Wt
  FX : List (Int × Int)
def bkV (B : Bk) : PV := .itp [.itp (B.MS.map PV.str), .itp (B.G.map ndV), .itp (B.NT.map tkV), .itp (B.W.map wtV), .itp (B.FX.map fxV)]
/-! dicts of texts to numbers -/
def oneL (l : List (At × PV)) : List (Ky × PV) := l.map fun p => (.one p.1, p.2)
theorem dget_none {k : At} : ∀ {l : List (At × PV)}, k ∉ l.map (·.1) → dget (.one k) (oneL l) = none
  | [], _ => rfl
  | (j, v) :: l, h => by
    show (if Ky.one j = Ky.one k then some v else dget (.one k) (oneL l)) = none
    rw [if_neg (fun z => h (by injection z with z; rw [← z]; exact List.mem_cons_self)), dget_none fun z => h (List.mem_cons_of_mem _ z)]
theorem dputs_nd : ∀ (ps acc : List (At × PV)), ((acc ++ ps).map (·.1)).Nodup → dputs (oneL acc) ps = oneL (acc ++ ps)
  | [], acc, _ => by rw [List.append_nil]; rfl
  | p :: ps, acc, nd => by
    have np : p.1 ∉ acc.map (·.1) := fun z => by
      rw [List.map_append, List.map_cons] at nd
      exact (List.nodup_append.mp nd).2.2 _ z _ List.mem_cons_self rfl
    have e : dput (.one p.1) p.2 (oneL acc) = oneL (acc ++ [p]) := by
      unfold dput
      rw [dget_none np]
      show (if false = true then _ else _) = _
      rw [if_neg (by decide)]
      unfold oneL
      rw [List.map_append]; rfl
    show dputs (dput (.one p.1) p.2 (oneL acc)) ps = _
    rw [e, dputs_nd ps (acc ++ [p]) (by rw [List.append_assoc]; exact nd), List.append_assoc]
    rfl
def sD (nd : List (Str × Int)) : List (Ky × PV) := nd.map fun p => (.one (.inr p.1), .int p.2)
theorem sD_is {nd : List (Str × Int)} (nn : (nd.map (·.1)).Nodup) : dputs [] (nd.map fun p => (Sum.inr p.1, PV.int p.2)) = sD nd := by
  have nd' : ((nd.map fun p => ((Sum.inr p.1 : At), PV.int p.2)).map (·.1)).Nodup := by
    rw [List.map_map]
    have : (nd.map ((·.1) ∘ fun p => ((Sum.inr p.1 : At), PV.int p.2))) = (nd.map (·.1)).map Sum.inr := by rw [List.map_map]; rfl
    rw [this]
    unfold List.Nodup
    rw [List.pairwise_map]
    exact nn.imp fun h z => h (by injection z)
  have e := dputs_nd (nd.map fun p => ((Sum.inr p.1 : At), PV.int p.2)) [] (by rw [List.nil_append]; exact nd')
  rw [List.nil_append] at e
  show dputs (oneL []) _ = _
  rw [e]
  unfold oneL sD
  rw [List.map_map]; rfl
theorem sD_get (g : Str) : ∀ nd : List (Str × Int), dget (.one (.inr g)) (sD nd) = (nd.lookup g).map PV.int
  | [] => rfl
  | (j, v) :: nd => by
    show (if Ky.one (.inr j) = Ky.one (.inr g) then some (PV.int v) else dget (.one (.inr g)) (sD nd)) = _
    rw [List.lookup_cons]
    by_cases e : j = g
    · subst e
      rw [if_pos rfl, beq_self_eq_true]; rfl
    · rw [if_neg (fun z => e (by injection z with z; injection z)), show (g == j) = false from by simpa using (Ne.symm e), sD_get g nd]
theorem sD_kind (g : Str) (nd : List (Str × Int)) : kindOk (.one (.inr g)) (sD nd) = true := by cases nd <;> rfl
theorem pairs_nd : ∀ ps : List (Str × Int), pairsOf (ps.map ndV) = some (ps.map fun p => (Sum.inr p.1, PV.int p.2))
  | [] => rfl
  | p :: ps => by
    rw [List.map_cons]
    show (match keyAtom (.str p.1), pairsOf (ps.map ndV) with | some a, some ps => some ((a, PV.int p.2) :: ps) | _, _ => none) = _
    rw [pairs_nd ps]; rfl
def getN (nd : List (Str × Int)) (g : Str) (d : Int) : Int := (nd.lookup g).getD d
theorem sD_getD (nd : List (Str × Int)) (g : Str) (d : Int) : (dget (.one (.inr g)) (sD nd)).getD (.int d) = .int (getN nd g d) := by
  rw [sD_get]
  unfold getN
  cases nd.lookup g <;> rfl
theorem look_mem : ∀ {D : List (Str × Int)} {i : Str} {v : Int}, D.lookup i = some v → (i, v) ∈ D
  | (j, w) :: D, i, v, e => by
    rw [List.lookup_cons] at e
    by_cases c : i = j
    · subst c
      rw [beq_self_eq_true] at e
      cases e
      exact List.mem_cons_self
    · rw [show (i == j) = false from by simpa using c] at e
      exact List.mem_cons_of_mem _ (look_mem e)
theorem look_in {i : Str} {v : Int} : ∀ {D : List (Str × Int)}, (D.map (·.1)).Nodup → (i, v) ∈ D → D.lookup i = some v
  | (j, w) :: D, nd, m => by
    rw [List.lookup_cons]
    obtain ⟨n1, n2⟩ := List.nodup_cons.mp nd
    rcases List.mem_cons.mp m with z | m
    · cases z
      rw [beq_self_eq_true]
    · have : i ≠ j := fun e => n1 (e ▸ List.mem_map.mpr ⟨_, m, rfl⟩)
      rw [show (i == j) = false from by simpa using this]
      exact look_in n2 m
theorem getN_ge {nd : List (Str × Int)} {g : Str} {k : Int} (nn : (nd.map (·.1)).Nodup) (k1 : 1 ≤ k) : k ≤ getN nd g 0 ↔ ∃ c, (g, c) ∈ nd ∧ k ≤ c := by
  unfold getN
  constructor
  · intro h
    cases e : nd.lookup g with
    | none => rw [e] at h; exact absurd h (by show ¬ (k ≤ 0); omega)
    | some c => rw [e] at h; exact ⟨c, look_mem e, h⟩
  · rintro ⟨c, m, h⟩
    rw [look_in nn m]; exact h
/-! harder -/
structure HardR (a b : Tk) : Prop where
  l : a.l ≤ b.l
  mc : b.mc = a.mc
  fs : a.fs ≤ b.fs
  due : ∀ d, a.due = some d → ∃ e, b.due = some e ∧ e ≤ d
  wt : 0 < a.wt → b.wt ≠ 0
  nd : ∀ p ∈ a.nd, ∃ c, (p.1, c) ∈ b.nd ∧ p.2 ≤ c
def sp_has_task : Z.Spec := fun args h F _ => ∃ a b : Str × Tk, args = [tkV a, tkV b] ∧ (b.2.nd.map (·.1)).Nodup ∧ (∀ p ∈ a.2.nd, 1 ≤ p.2) ∧ a.2.nd.length ≤ 100 ∧ ∀ h', Ext h h' → F (.bl (tf (HardR a.2 b.2))) h'
def ir_ht2 : List Sm := [.set (.nm 2) (.bi .dict [(.idx (.var 1) (.int 3))]),
  .ret (.bi .all [(.comp [3, 4] (.tp [(.nm 3), (.nm 4)]) (.wlk (.idx (.var 0) (.int 3))) none (.cmp .GtE (.dg2 (.var 2) (.var 3) (.int 0)) (.var 4)))])]
def ir_ht1 : List Sm := .ife (.or (.and (.cmp .IsNot (.idx (.var 0) (.int 5)) .non) (.or (.cmp .Is (.idx (.var 1) (.int 5)) .non) (.cmp .Gt (.idx (.var 1) (.int 5)) (.idx (.var 0) (.int 5))))) (.and (.cmp .Eq (.idx (.var 1) (.int 6)) (.int 0)) (.cmp .Gt (.idx (.var 0) (.int 6)) (.int 0)))) [.ret (.bl false)] [] :: ir_ht2
theorem ht2_ok {a b : Str × Tk} {h : Hep} {D : Dz} (nb : (b.2.nd.map (·.1)).Nodup) (na : ∀ p ∈ a.2.nd, 1 ≤ p.2) (la : a.2.nd.length ≤ 100) (hl : a.2.l ≤ b.2.l) (hm : b.2.mc = a.2.mc) (hf : a.2.fs ≤ b.2.fs) (hd : ∀ d, a.2.due = some d → ∃ e, b.2.due = some e ∧ e ≤ d) (hw : 0 < a.2.wt → b.2.wt ≠ 0)
    (k : ∀ h', Ext h h' → D.rt (.bl (tf (HardR a.2 b.2))) h') : wSs [] ir_ht2 [some (tkV a), some (tkV b), none, none, none] h D := by
  unfold ir_ht2
  have i73 : ixN 7 3 = some 3 := rfl
  have fb : tkV b = .itp [.str b.1, .int b.2.l, .str b.2.mc, .itp (b.2.nd.map ndV), .int b.2.fs, dueV b.2.due, .int b.2.wt] := rfl
  have fa : tkV a = .itp [.str a.1, .int a.2.l, .str a.2.mc, .itp (a.2.nd.map ndV), .int a.2.fs, dueV a.2.due, .int a.2.wt] := rfl
  rw [fb, fa]
  refine wSs_step ?_; simp_arith [i73]
  refine ⟨_, pairs_nd _, ?_⟩
  rw [sD_is nb]
  have X1 : Ext h (h ++ [Ob.dic (sD b.2.nd)]) := .app
  have e1 := new_get (h := h) (o := Ob.dic (sD b.2.nd))
  generalize hq : h ++ [Ob.dic (sD b.2.nd)] = h1 at *
  generalize hr : h.length = r at *
  try simp_arith []
  refine wSs_step ?_; simp_arith [i73]
  refine wComp_map (fun x => match x with | .itp [.str g, .int c] => .bl (decide (c ≤ getN b.2.nd g 0)) | _ => .non) _ (fun h' x => trivial) (fun x hx h2 X2 => ?_) (by rw [List.length_map]; show _ ≤ 16777216; omega) fun h2 X2 => ?_
  · obtain ⟨p, hp, rfl⟩ := List.mem_map.mp hx
    refine ⟨_, rfl, fun G hG => ?_⟩
    have kg : keyOf (.str p.1) = some (.one (.inr p.1)) := rfl
    simp_arith [X2 _ _ e1, kg, sD_kind]
    rw [sD_getD]
    exact hG _ X2
  · have e2 : (a.2.nd.map ndV).map (fun x => match x with | .itp [.str g, .int c] => .bl (decide (c ≤ getN b.2.nd g 0)) | _ => .non) = (a.2.nd.map fun p => decide (p.2 ≤ getN b.2.nd p.1 0)).map PV.bl := by
      rw [List.map_map, List.map_map]; rfl
    rw [e2]
    simp_arith [new_get]
    refine ⟨_, boolsOf_map _, ?_⟩
    have := k _ (X1.trans (X2.trans (.app (j := [Ob.lst ((a.2.nd.map fun p => decide (p.2 ≤ getN b.2.nd p.1 0)).map PV.bl)]))))
    rw [tf_is (b := (a.2.nd.map fun p => decide (p.2 ≤ getN b.2.nd p.1 0)).all id)] at this
    · exact this
    · rw [List.all_map, List.all_eq_true]
      constructor
      · intro H p hp
        exact decide_eq_true ((getN_ge nb (na p hp)).mpr (H.nd p hp))
      · intro H
        exact ⟨hl, hm, hf, hd, hw, fun p hp => (getN_ge nb (na p hp)).mp (of_decide_eq_true (H p hp))⟩
theorem ht1_ok {a b : Str × Tk} {h : Hep} {D : Dz} (nb : (b.2.nd.map (·.1)).Nodup) (na : ∀ p ∈ a.2.nd, 1 ≤ p.2) (la : a.2.nd.length ≤ 100) (hl : a.2.l ≤ b.2.l) (hm : b.2.mc = a.2.mc) (hf : a.2.fs ≤ b.2.fs)
    (k : ∀ h', Ext h h' → D.rt (.bl (tf (HardR a.2 b.2))) h') : wSs [] ir_ht1 [some (tkV a), some (tkV b), none, none, none] h D := by
  unfold ir_ht1
  have i75 : ixN 7 5 = some 5 := rfl
  have i76 : ixN 7 6 = some 6 := rfl
  have fb : tkV b = .itp [.str b.1, .int b.2.l, .str b.2.mc, .itp (b.2.nd.map ndV), .int b.2.fs, dueV b.2.due, .int b.2.wt] := rfl
  have fa : tkV a = .itp [.str a.1, .int a.2.l, .str a.2.mc, .itp (a.2.nd.map ndV), .int a.2.fs, dueV a.2.due, .int a.2.wt] := rfl
  have no : ∀ {h'}, ¬ HardR a.2 b.2 → Ext h h' → D.rt (.bl false) h' := fun n X => by have := k _ X; rw [tf_f n] at this; exact this
  have wpart : (∀ d, a.2.due = some d → ∃ e, b.2.due = some e ∧ e ≤ d) → (0 < a.2.wt → b.2.wt ≠ 0) → wSs [] ir_ht2 [some (tkV a), some (tkV b), none, none, none] h D := fun hd hw => ht2_ok nb na la hl hm hf hd hw k
  have wts : (∀ d, a.2.due = some d → ∃ e, b.2.due = some e ∧ e ≤ d) → wE [] (.and (.cmp .Eq (.idx (.var 1) (.int 6)) (.int 0)) (.cmp .Gt (.idx (.var 0) (.int 6)) (.int 0))) [some (tkV a), some (tkV b), none, none, none] h (fun x h1 => truW h1 x fun t => if t = true then wSs [] [.ret (.bl false)] [some (tkV a), some (tkV b), none, none, none] h1 { D with nx := fun σ' h' => wSs [] ir_ht2 σ' h' D } else wSs [] [] [some (tkV a), some (tkV b), none, none, none] h1 { D with nx := fun σ' h' => wSs [] ir_ht2 σ' h' D }) fun x h1 => D.ex x [some (tkV a), some (tkV b), none, none, none] h1 := fun hd => by
    by_cases c1 : b.2.wt = 0
    · have c1' : (b.2.wt == 0) = true := by simpa using c1
      by_cases c2 : 0 < a.2.wt
      · rw [fb, fa]
        simp_arith [i76, c1', c2]
        refine wSs_step ?_; simp_arith []
        exact no (fun H => H.wt c2 c1) .rfl'
      · rw [fb, fa]
        simp_arith [i76, c1', c2]
        rw [← fb, ← fa]
        exact wpart hd fun z => absurd z c2
    · have c1' : (b.2.wt == 0) = false := by simpa using c1
      rw [fb, fa]
      simp_arith [i76, c1']
      rw [← fb, ← fa]
      exact wpart hd fun _ => c1
  cases hda : a.2.due with
  | none =>
    have hd : ∀ d, a.2.due = some d → ∃ e, b.2.due = some e ∧ e ≤ d := fun d e => by rw [hda] at e; cases e
    have w := wts hd
    rw [fb, fa] at w ⊢
    rw [hda] at w ⊢
    unfold dueV at w ⊢
    refine wSs_step ?_
    simp (maxSteps := 2000000) only [inW, wComp, wFor, wSs_nil, wS, wE, wEs, wO, wC, wI, binW, binI, cmpW, truW, itemW, sliceW, revW, storeW, biW, isT, miW, isL, getL, getD, listW, seqW, walkW, fldW, insW, stfW, getO, putZ, pairW, dgetW, isD, smW, isS, tgt, tgts, wipeZ, grdOk, eqW_int, enter, List.map_cons, List.map_nil, List.length_cons, List.length_nil, List.replicate_succ, List.replicate_zero, Nat.add_sub_cancel, Nat.sub_self, Nat.zero_add, List.cons_append, List.nil_append, List.getElem?_cons_zero, List.getElem?_cons_succ, List.set_cons_zero, List.set_cons_succ, if_true, if_false, ite_true, ite_false, Bool.not_true, Bool.not_false, Bool.true_eq_false, Bool.false_eq_true, true_and, and_true, reduceCtorEq, Option.some.injEq, false_and, and_false, false_or, or_false, true_or, or_true, Nat.reduceAdd, Nat.reduceSub, List.isEmpty_cons, List.isEmpty_nil, beq_self_eq_true, decide_true, decide_false, Bool.false_or, Bool.true_or, Bool.or_false, Bool.or_true, Bool.and_true, Bool.and_false, Bool.true_and, Bool.false_and, reduceIte, dite_true, dite_false, beq_iff_eq, decide_eq_true_eq, bne_iff_ne, ixN_int, Int.reduceLE, Int.reduceLT, Int.reduceNeg, Int.reduceToNat, Int.cast_ofNat_Int, exists_and_left, exists_eq_left', exists_eq_left, exists_eq', not_true_eq_false, not_false_eq_true, Int.toNat_natCast, Nat.reduceLT, Nat.reduceLeDiff, ne_eq, big, Nat.zero_le, List.length_map, List.getElem?_map, Option.map_some, Option.map_none, Int.reducePow, Nat.reducePow, i75] at w ⊢
    exact w
  | some d =>
    cases hdb : b.2.due with
    | none =>
      rw [fb, fa]
      rw [hda, hdb]
      unfold dueV
      refine wSs_step ?_; simp_arith [i75]
      refine wSs_step ?_; simp_arith []
      exact no (fun H => by obtain ⟨e, h1, _⟩ := H.due d hda; rw [hdb] at h1; cases h1) .rfl'
    | some e =>
      by_cases c : d < e
      · rw [fb, fa]
        rw [hda, hdb]
        unfold dueV
        refine wSs_step ?_; simp_arith [i75, c]
        refine wSs_step ?_; simp_arith []
        exact no (fun H => by obtain ⟨e', h1, h2⟩ := H.due d hda; rw [hdb] at h1; cases h1; omega) .rfl'
      · have hd : ∀ d, a.2.due = some d → ∃ e, b.2.due = some e ∧ e ≤ d := fun d' e' => by rw [hda] at e'; cases e'; exact ⟨e, hdb, by omega⟩
        have w := wts hd
        rw [fb, fa] at w ⊢
        rw [hda, hdb] at w ⊢
        unfold dueV at w ⊢
        refine wSs_step ?_
        simp (maxSteps := 2000000) only [inW, wComp, wFor, wSs_nil, wS, wE, wEs, wO, wC, wI, binW, binI, cmpW, truW, itemW, sliceW, revW, storeW, biW, isT, miW, isL, getL, getD, listW, seqW, walkW, fldW, insW, stfW, getO, putZ, pairW, dgetW, isD, smW, isS, tgt, tgts, wipeZ, grdOk, eqW_int, enter, List.map_cons, List.map_nil, List.length_cons, List.length_nil, List.replicate_succ, List.replicate_zero, Nat.add_sub_cancel, Nat.sub_self, Nat.zero_add, List.cons_append, List.nil_append, List.getElem?_cons_zero, List.getElem?_cons_succ, List.set_cons_zero, List.set_cons_succ, if_true, if_false, ite_true, ite_false, Bool.not_true, Bool.not_false, Bool.true_eq_false, Bool.false_eq_true, true_and, and_true, reduceCtorEq, Option.some.injEq, false_and, and_false, false_or, or_false, true_or, or_true, Nat.reduceAdd, Nat.reduceSub, List.isEmpty_cons, List.isEmpty_nil, beq_self_eq_true, decide_true, decide_false, Bool.false_or, Bool.true_or, Bool.or_false, Bool.or_true, Bool.and_true, Bool.and_false, Bool.true_and, Bool.false_and, reduceIte, dite_true, dite_false, beq_iff_eq, decide_eq_true_eq, bne_iff_ne, ixN_int, Int.reduceLE, Int.reduceLT, Int.reduceNeg, Int.reduceToNat, Int.cast_ofNat_Int, exists_and_left, exists_eq_left', exists_eq_left, exists_eq', not_true_eq_false, not_false_eq_true, Int.toNat_natCast, Nat.reduceLT, Nat.reduceLeDiff, ne_eq, big, Nat.zero_le, List.length_map, List.getElem?_map, Option.map_some, Option.map_none, Int.reducePow, Nat.reducePow, i75, c] at w ⊢
        exact w
theorem mt_has_task : Meets [] 5 2 ir_has_task sp_has_task := by
  rintro args h F E ⟨a, b, rfl, nb, na, la, k⟩
  refine ⟨rfl, ?_⟩
  rw [show ir_has_task = .ife (.or (.cmp .Lt (.idx (.var 1) (.int 1)) (.idx (.var 0) (.int 1))) (.or (.cmp .NotEq (.idx (.var 1) (.int 2)) (.idx (.var 0) (.int 2))) (.cmp .Lt (.idx (.var 1) (.int 4)) (.idx (.var 0) (.int 4))))) [.ret (.bl false)] [] :: ir_ht1 from rfl]
  have i71 : ixN 7 1 = some 1 := rfl
  have i72 : ixN 7 2 = some 2 := rfl
  have i74 : ixN 7 4 = some 4 := rfl
  have fb : tkV b = .itp [.str b.1, .int b.2.l, .str b.2.mc, .itp (b.2.nd.map ndV), .int b.2.fs, dueV b.2.due, .int b.2.wt] := rfl
  have fa : tkV a = .itp [.str a.1, .int a.2.l, .str a.2.mc, .itp (a.2.nd.map ndV), .int a.2.fs, dueV a.2.due, .int a.2.wt] := rfl
  have no : ∀ {h'}, ¬ HardR a.2 b.2 → Ext h h' → F (.bl false) h' := fun n X => by have := k _ X; rw [tf_f n] at this; exact this
  show wSs _ _ [some _, some _, none, none, none] h _
  by_cases c1 : b.2.l < a.2.l
  · rw [fb, fa]
    refine wSs_step ?_; simp_arith [i71, c1]
    refine wSs_step ?_; simp_arith []
    exact no (fun H => by have := H.l; omega) .rfl'
  · rw [fb, fa]
    refine wSs_step ?_; simp_arith [i71, c1, i72]
    refine eqW_txt ?_
    cases hc : (b.2.mc == a.2.mc) with
    | false =>
      simp_arith []
      refine wSs_step ?_; simp_arith []
      exact no (fun H => by have := H.mc; rw [this] at hc; simp at hc) .rfl'
    | true =>
      by_cases c2 : b.2.fs < a.2.fs
      · simp_arith [i74, c2]
        refine wSs_step ?_; simp_arith []
        exact no (fun H => by have := H.fs; omega) .rfl'
      · simp_arith [i74, c2]
        rw [← fb, ← fa]
        exact ht1_ok nb na la (by omega) (by simpa using hc) (by omega) k
end Law

/-! k80c: has_waits, is_harder -/
namespace Law
open PySem Z Com
/-- a loop that tells False at the first of which something isn't so -/
theorem wFor_al {α : Type} {g : Grd} {t : Tg} {b : Z.Env → Hep → Dz → Prop} {D : Dz} (I : Z.Env → Hep → Prop) (R : Hep → Prop) (it : α → PV) (ok : α → Bool) :
    ∀ (l : List α) (σ : Z.Env) (h : Hep), I σ h → (∀ σ h, I σ h → grdOk h g) →
    (∀ a ∈ l, ∀ σ h, I σ h → ∃ σ', tgt t (it a) σ = some σ' ∧ ∀ K : Z.Env → Hep → Prop, (ok a = true → ∀ σ2 h2, I σ2 h2 → K σ2 h2) → (ok a = false → ∀ h2, R h2 → D.rt (.bl false) h2) → b σ' h { D with nx := K, ct := K, bk := D.nx }) →
    (l.all ok = false → ∀ h2, R h2 → D.rt (.bl false) h2) → (l.all ok = true → ∀ σ h, I σ h → D.nx σ h) → wFor g t b (l.map it) σ h D
  | [], σ, h, i, hg, _, _, nx => ⟨hg σ h i, nx rfl σ h i⟩
  | a :: l, σ, h, i, hg, body, rt, nx => by
    obtain ⟨σ', e, k⟩ := body a List.mem_cons_self σ h i
    refine ⟨hg σ h i, ?_⟩
    rw [e]
    refine k _ (fun z σ2 h2 i2 => ?_) fun z h2 r => rt (by rw [List.all_cons, z]; rfl) h2 r
    exact wFor_al I R it ok l σ2 h2 i2 hg (fun a m => body a (List.mem_cons_of_mem _ m)) (fun y => rt (by rw [List.all_cons, z, y]; rfl)) fun y => nx (by rw [List.all_cons, z, y]; rfl)
theorem wComp_fm {α β : Type} {g : Grd} {t : Tg} {c : Z.Env → Hep → KB → Prop} {e : Z.Env → Hep → KQ → Prop} {σ : Z.Env} {F : List PV → Hep → Prop} {h : Hep} (it : α → PV) (q : α → Option β) (v : β → PV) (l : List α) (hg : ∀ h', Ext h h' → grdOk h' g)
    (hb : ∀ a ∈ l, ∀ h', Ext h h' → ∃ σ', tgt t (it a) σ = some σ' ∧ (∀ G : KB, (∀ h2, Ext h h2 → G (q a).isSome h2) → c σ' h' G) ∧ ∀ h2, Ext h h2 → ∀ b, q a = some b → ∀ G : KQ, (∀ h3, Ext h h3 → G (v b) h3) → e σ' h2 G)
    (hl : l.length ≤ big) (fin : ∀ h', Ext h h' → F ((l.filterMap q).map v) h') : wComp g t c e σ (l.map it) [] h F := by
  refine wComp_ind (fun rest acc h' => Ext h h' ∧ ∃ A R, l = A ++ R ∧ rest = R.map it ∧ acc = (A.filterMap q).map v) (l.map it) [] h ⟨.rfl', [], l, rfl, rfl, rfl⟩ ?_ ?_
  · rintro x r acc h' ⟨ex, A, R, eA, eR, rfl⟩
    obtain ⟨a, R, rfl, rfl, rfl⟩ : ∃ a B', R = a :: B' ∧ x = it a ∧ r = B'.map it := by
      cases R with
      | nil => cases eR
      | cons a B' => cases eR; exact ⟨a, B', rfl, rfl, rfl⟩
    obtain ⟨σ', e1, e2, e3⟩ := hb a (by rw [eA]; simp) h' ex
    refine ⟨hg h' ex, σ', e1, fun K hK => e2 _ fun h2 ex2 => ?_⟩
    have hlen : ((A.filterMap q).map v).length < big := by
      have := congrArg List.length eA
      have q2 := List.length_filterMap_le q A
      simp at this
      rw [List.length_map]
      omega
    cases hq : q a with
    | some b =>
      rw [show (some b : Option β).isSome = true from rfl, if_pos rfl]
      exact e3 h2 ex2 b hq _ fun h3 ex3 => ⟨hlen, hK _ _ ⟨ex3, A ++ [a], R, by rw [eA, List.append_assoc]; rfl, rfl, by rw [List.filterMap_append]; simp [hq]⟩⟩
    | none =>
      rw [show (none : Option β).isSome = false from rfl, if_neg (by decide)]
      exact hK _ _ ⟨ex2, A ++ [a], R, by rw [eA, List.append_assoc]; rfl, rfl, by rw [List.filterMap_append]; simp [hq]⟩
  · rintro acc h' ⟨ex, A, R, eA, eR, rfl⟩
    have : R = [] := by cases R with | nil => rfl | cons _ _ => cases eR
    subst this
    rw [List.append_nil] at eA
    exact ⟨hg h' ex, by rw [← eA]; exact fin h' ex⟩
/-- each one told, by things of one's own -/
theorem wComp_mp {α : Type} {g : Grd} {t : Tg} {e : Z.Env → Hep → KQ → Prop} {σ : Z.Env} {F : List PV → Hep → Prop} {h : Hep} (it : α → PV) (v : α → PV) (l : List α) (hg : ∀ h', Ext h h' → grdOk h' g)
    (hb : ∀ a ∈ l, ∀ h', Ext h h' → ∃ σ', tgt t (it a) σ = some σ' ∧ ∀ G : KQ, (∀ h3, Ext h h3 → G (v a) h3) → e σ' h' G)
    (hl : l.length ≤ big) (fin : ∀ h', Ext h h' → F (l.map v) h') : wComp g t (fun _ h' G => G true h') e σ (l.map it) [] h F := by
  refine wComp_fm it some v l hg (fun a m h' X => ?_) hl fun h' X => by rw [List.filterMap_some]; exact fin h' X
  obtain ⟨σ', e1, e2⟩ := hb a m h' X
  refine ⟨σ', e1, fun G hG => hG _ X, fun h2 X2 b eb G hG => ?_⟩
  cases eb
  obtain ⟨σ2, e3, e4⟩ := hb a m h2 X2
  rw [e1] at e3
  cases e3
  exact e4 G hG
theorem enum_z {α : Type} (f : α → PV) : ∀ (l : List α) (k : Nat), enumL k (l.map f) = (l.zipIdx k).map fun p => .tup [.int p.2, f p.1]
  | [], _ => rfl
  | x :: l, k => by
    rw [List.map_cons, enumL, enum_z f l (k + 1)]; rfl
def WIn (w : Wt) (V : List Wt) : Prop := ∃ v ∈ V, v.1 = w.1 ∧ v.2.1 = w.2.1 ∧ w.2.2 ≤ v.2.2
def sp_has_waits : Z.Spec := fun args h F _ => ∃ V U : List Wt, args = [.itp (V.map wtV), .itp (U.map wtV)] ∧ U.length ≤ 1000 ∧ ∀ h', Ext h h' → F (.bl (tf (∀ w ∈ V, WIn w U))) h'
def ex_hw : Ex := .and (.cmp .Eq (.slc (.var 5) none (some (.int 2))) (.tup [(.var 2), (.var 3)])) (.cmp .GtE (.idx (.var 5) (.int 2)) (.var 4))
theorem mt_has_waits : Meets [] 6 2 ir_has_waits sp_has_waits := by
  rintro args h F E ⟨V, U, rfl, lU, k⟩
  refine ⟨rfl, ?_⟩
  rw [show ir_has_waits = [.for_ (.tp [(.nm 2), (.nm 3), (.nm 4)]) (.wlk (.var 0)) [.ife (.not (.bi .any [(.comp [5] (.nm 5) (.wlk (.var 1)) none ex_hw)])) [.ret (.bl false)] []], .ret (.bl true)] from rfl]
  have i32 : ixN 3 2 = some 2 := rfl
  show wSs _ _ [some _, some _, none, none, none, none] h _
  refine wSs_step ?_; simp_arith []
  have all_iff : ∀ b : Bool, (V.all fun w => tf (WIn w U)) = b → tf (∀ w ∈ V, WIn w U) = b := fun b e => by
    refine tf_is ?_
    rw [← e, List.all_eq_true]
    exact ⟨fun H w m => tf_t (H w m), fun H w m => of_tf (H w m)⟩
  refine wFor_al (fun σ h' => Ext h h' ∧ ∃ y2 y3 y4, σ = [some (.itp (V.map wtV)), some (.itp (U.map wtV)), y2, y3, y4, none]) (fun h' => Ext h h') wtV (fun w => tf (WIn w U)) _ _ _ ⟨.rfl', _, _, _, rfl⟩ (fun _ _ _ => trivial) (fun w mw σ h2 ⟨X, y2, y3, y4, eσ⟩ => ?_) (fun z h2 X => by have := k h2 X; rw [all_iff _ z] at this; exact this) fun z σ h2 ⟨X, y2, y3, y4, eσ⟩ => ?_
  · subst eσ
    refine ⟨_, rfl, fun K kn ks => ?_⟩
    show wSs _ _ [some _, some _, some (.int w.1), some (.int w.2.1), some (.int w.2.2), none] _ _
    refine wSs_step ?_; simp_arith []
    refine wComp_mp wtV (fun v => .bl (v.1 == w.1 && v.2.1 == w.2.1 && decide (w.2.2 ≤ v.2.2))) U (fun _ _ => trivial) (fun v mv h3 X3 => ?_) (by show _ ≤ 16777216; omega) fun h3 X3 => ?_
    · refine ⟨_, rfl, fun G hG => ?_⟩
      have hG' := hG _ X3
      unfold ex_hw wtV
      simp_arith []
      rw [show cutL [PV.int v.1, .int v.2.1, .int v.2.2] none (some 2) = [PV.int v.1, .int v.2.1] from rfl]
      refine eqW_of (d := .tuple [.int v.1, .int v.2.1]) (e := .tuple [.int w.1, .int w.2.1]) rfl rfl rfl rfl ?_
      have e : PyData.eqv (.tuple [.int v.1, .int v.2.1]) (.tuple [.int w.1, .int w.2.1]) = (v.1 == w.1 && v.2.1 == w.2.1) := by
        show ((v.1 == w.1) && ((v.2.1 == w.2.1) && true)) = _
        rw [Bool.and_true]
      rw [e]
      cases hc : (v.1 == w.1 && v.2.1 == w.2.1) with
      | true =>
        rw [hc, Bool.true_and] at hG'
        simp_arith [i32]
        exact hG'
      | false =>
        rw [hc, Bool.false_and] at hG'
        simp_arith []
        exact hG'
    · have eb : U.map (fun v => PV.bl (v.1 == w.1 && v.2.1 == w.2.1 && decide (w.2.2 ≤ v.2.2))) = (U.map fun v => v.1 == w.1 && v.2.1 == w.2.1 && decide (w.2.2 ≤ v.2.2)).map PV.bl := by rw [List.map_map]; rfl
      rw [eb]
      simp_arith [new_get]
      refine ⟨_, boolsOf_map _, ?_⟩
      have ea : (U.map fun v => v.1 == w.1 && v.2.1 == w.2.1 && decide (w.2.2 ≤ v.2.2)).any id = tf (WIn w U) := by
        refine (tf_is ?_).symm
        rw [List.any_map, List.any_eq_true]
        unfold WIn
        simp [Bool.and_eq_true, and_assoc]
      rw [ea]
      cases hc : tf (WIn w U) with
      | true =>
        simp_arith []
        exact kn hc _ _ ⟨X.trans (X3.trans .app), _, _, _, rfl⟩
      | false =>
        simp_arith []
        refine wSs_step ?_; simp_arith []
        exact ks hc _ (X.trans (X3.trans .app))
  · subst eσ
    refine wSs_step ?_; simp_arith []
    have := k h2 X
    rw [all_iff _ z] at this
    exact this
def OkS (s : Str) : Prop := PyData.strOk s = true ∧ PyData.leavesShort 10 (.str s) = true ∧ PyData.bulk (.str s) ≤ 10
structure FormT (t : Tk) : Prop where
  l1 : 1 ≤ t.l
  l2 : t.l ≤ 1000
  mc : OkS t.mc
  nn : (t.nd.map (·.1)).Nodup
  nl : t.nd.length ≤ 8
  n : ∀ p ∈ t.nd, OkS p.1 ∧ 1 ≤ p.2 ∧ p.2 ≤ 1000
  f1 : 0 ≤ t.fs
  f2 : t.fs ≤ 10000
  d : ∀ d, t.due = some d → 0 ≤ d ∧ d ≤ 10000
  w1 : 0 ≤ t.wt
  w2 : t.wt ≤ 10000
structure Form (B : Bk) : Prop where
  ms : ∀ s ∈ B.MS, OkS s
  ml : B.MS.length ≤ 6
  g1 : (B.G.map (·.1)).Nodup
  g2 : ∀ p ∈ B.G, OkS p.1 ∧ 1 ≤ p.2 ∧ p.2 < 100
  gl : B.G.length ≤ 8
  n1 : 1 ≤ B.NT.length
  n2 : B.NT.length ≤ 9
  t : ∀ p ∈ B.NT, OkS p.1 ∧ FormT p.2
  w : ∀ w ∈ B.W, 0 ≤ w.1 ∧ w.1 ≤ 10000 ∧ 0 ≤ w.2.1 ∧ w.2.1 ≤ 10000 ∧ 0 ≤ w.2.2 ∧ w.2.2 ≤ 10000
  wl : B.W.length ≤ 100
  x : ∀ p ∈ B.FX, 0 ≤ p.1 ∧ p.1 < B.NT.length ∧ 0 ≤ p.2 ∧ p.2 ≤ 100000
  xl : B.FX.length ≤ 9
structure Hard (B C : Bk) : Prop where
  ms : C.MS = B.MS
  n : B.NT.length ≤ C.NT.length
  g : ∀ p ∈ B.G, ∃ c, (p.1, c) ∈ C.G ∧ c ≤ p.2
  t : ∀ (i : Nat) a b, B.NT[i]? = some a → C.NT[i]? = some b → HardR a.2 b.2
  w : ∀ w ∈ B.W, WIn w C.W
  x : ∀ p ∈ B.FX, p ∈ C.FX
theorem eqv_strs : ∀ ss ts : List Str, PyData.eqvAll (ss.map PyData.str) (ts.map PyData.str) = (ss == ts)
  | [], [] => rfl
  | [], _ :: _ => rfl
  | _ :: _, [] => rfl
  | s :: ss, t :: ts => by
    show ((s == t) && PyData.eqvAll (ss.map PyData.str) (ts.map PyData.str)) = ((s == t) && (ss == ts))
    rw [eqv_strs ss ts]
theorem lay_ss : ∀ ss : List Str, (∀ s ∈ ss, OkS s) → PyData.canLayAll0 (ss.map PyData.str) = true
  | [], _ => rfl
  | s :: ss, k => by
    show (PyData.strOk s && PyData.canLayAll0 (ss.map PyData.str)) = true
    rw [(k s List.mem_cons_self).1, lay_ss ss fun t m => k t (List.mem_cons_of_mem _ m)]; rfl
theorem dat_ss (h : Hep) (n : Nat) : ∀ ss : List Str, datAll (dat h n) (ss.map PV.str) = some (ss.map PyData.str)
  | [] => rfl
  | s :: ss => by
    rw [List.map_cons, datAll, dat_ss h n ss]
    cases n <;> rfl
theorem eqW_strs {h : Hep} {ss ts : List Str} {K : Bool → Prop} (h1 : ∀ s ∈ ss, OkS s) (h2 : ∀ s ∈ ts, OkS s) (k : K (ss == ts)) : eqW h (.itp (ss.map PV.str)) (.itp (ts.map PV.str)) K := by
  refine eqW_of (d := .tuple (ss.map PyData.str)) (e := .tuple (ts.map PyData.str)) ?_ ?_ (lay_ss ss h1) (lay_ss ts h2) ?_
  · show (datAll (dat h 59) (ss.map PV.str)).map PyData.tuple = _
    rw [dat_ss]; rfl
  · show (datAll (dat h 59) (ts.map PV.str)).map PyData.tuple = _
    rw [dat_ss]; rfl
  · show K (PyData.eqvAll (ss.map PyData.str) (ts.map PyData.str))
    rw [eqv_strs]; exact k
theorem any_fx (p : Int × Int) : ∀ l : List (Int × Int), (l.map fun q => PyData.tuple [.int q.1, .int q.2]).any (fun e => PyData.eqv e (.tuple [.int p.1, .int p.2])) = decide (p ∈ l)
  | [] => by simp
  | q :: l => by
    rw [List.map_cons, List.any_cons, any_fx p l]
    show (((q.1 == p.1) && ((q.2 == p.2) && true)) || decide (p ∈ l)) = decide (p ∈ q :: l)
    have e1 : ((q.1 == p.1) && ((q.2 == p.2) && true)) = decide (p = q) := by
      by_cases a : q.1 = p.1
      · by_cases b : q.2 = p.2
        · rw [decide_eq_true (Prod.ext a.symm b.symm), a, b, beq_self_eq_true, beq_self_eq_true]; rfl
        · rw [decide_eq_false (fun z => b (by rw [z])), show (q.2 == p.2) = false by simpa using b, Bool.false_and, Bool.and_false]
      · rw [decide_eq_false (fun z => a (by rw [z])), show (q.1 == p.1) = false by simpa using a, Bool.false_and]
    rw [e1]
    by_cases c : p = q
    · rw [decide_eq_true c, decide_eq_true (show p ∈ q :: l by rw [c]; exact List.mem_cons_self), Bool.true_or]
    · rw [decide_eq_false c, Bool.false_or]
      by_cases m : p ∈ l
      · rw [decide_eq_true m, decide_eq_true (List.mem_cons_of_mem _ m)]
      · rw [decide_eq_false m, decide_eq_false fun z => (List.mem_cons.mp z).elim c m]
theorem dat_fx (h : Hep) (n : Nat) : ∀ l : List (Int × Int), datAll (dat h (n + 1)) (l.map fxV) = some (l.map fun q => PyData.tuple [.int q.1, .int q.2])
  | [] => rfl
  | p :: l => by
    rw [List.map_cons, datAll, dat_fx h n l, show dat h (n + 1) (fxV p) = some (.tuple [.int p.1, .int p.2]) by cases n <;> rfl]; rfl
theorem inL_fx {h : Hep} {p : Int × Int} {l : List (Int × Int)} {K : Bool → Prop} (k : K (decide (p ∈ l))) : inL h (fxV p) (l.map fxV) K := by
  refine ⟨.tuple [.int p.1, .int p.2], _, rfl, dat_shaped (h := h) (n := 59) (x := fxV p) (by decide) rfl rfl, dat_fx h 58 l, ?_, by rw [any_fx]; exact k⟩
  induction l with
  | nil => rfl
  | cons q l ih => exact lay_pairs (q :: l)
end Law

/-! k80d: is_harder -/
namespace Law
open PySem Z Com
abbrev GIh : List Z.Spec := [sp_has_task, sp_has_waits]
def sp_is_harder : Z.Spec := fun args h F _ => ∃ B C : Bk, args = [bkV B, bkV C] ∧ Form B ∧ Form C ∧ ∀ h', Ext h h' → F (.bl (tf (Hard B C))) h'
theorem getN_le {nd : List (Str × Int)} {g : Str} {k : Int} (nn : (nd.map (·.1)).Nodup) (k1 : k < 100) : getN nd g 100 ≤ k ↔ ∃ c, (g, c) ∈ nd ∧ c ≤ k := by
  unfold getN
  constructor
  · intro h
    cases e : nd.lookup g with
    | none => rw [e] at h; exact absurd h (by show ¬ ((100 : Int) ≤ k); omega)
    | some c => rw [e] at h; exact ⟨c, look_mem e, h⟩
  · rintro ⟨c, m, h⟩
    rw [look_in nn m]; exact h
def ex_ih3 : Ex := .cmp .LtE (.dg2 (.var 2) (.var 3) (.int 100)) (.var 4)
def ex_ih4 : Ex := .call 0 [(.var 6), (.idx (.idx (.var 1) (.int 2)) (.var 5))]
def ex_ih5 : Ex := .cmp .In (.var 7) (.idx (.var 1) (.int 4))
def ir_ih5 : List Sm := [.ret (.and (.call 1 [(.idx (.var 0) (.int 3)), (.idx (.var 1) (.int 3))]) (.bi .all [(.comp [7] (.nm 7) (.wlk (.idx (.var 0) (.int 4))) none ex_ih5)]))]
def ir_ih4 : List Sm := .ife (.not (.bi .all [(.comp [5, 6] (.tp [(.nm 5), (.nm 6)]) (.enum (.idx (.var 0) (.int 2))) none ex_ih4)])) [.ret (.bl false)] [] :: ir_ih5
def ir_ih3 : List Sm := .set (.nm 2) (.bi .dict [(.idx (.var 1) (.int 1))]) :: .ife (.not (.bi .all [(.comp [3, 4] (.tp [(.nm 3), (.nm 4)]) (.wlk (.idx (.var 0) (.int 1))) none ex_ih3)])) [.ret (.bl false)] [] :: ir_ih4
def TIn (B C : Bk) : Prop := ∀ (i : Nat) a b, B.NT[i]? = some a → C.NT[i]? = some b → HardR a.2 b.2
theorem ih5_ok {B C : Bk} {y2 : Option PV} {h : Hep} {D : Dz} (fB : Form B) (fC : Form C) (m : C.MS = B.MS) (n : B.NT.length ≤ C.NT.length) (g : ∀ p ∈ B.G, ∃ c, (p.1, c) ∈ C.G ∧ c ≤ p.2) (t : TIn B C) (k : ∀ h', Ext h h' → D.rt (.bl (tf (Hard B C))) h') :
    wSs GIh ir_ih5 [some (bkV B), some (bkV C), y2, none, none, none, none, none] h D := by
  unfold ir_ih5
  have i53 : ixN 5 3 = some 3 := rfl
  have i54 : ixN 5 4 = some 4 := rfl
  have fold : ∀ B : Bk, bkV B = .itp [.itp (B.MS.map PV.str), .itp (B.G.map ndV), .itp (B.NT.map tkV), .itp (B.W.map wtV), .itp (B.FX.map fxV)] := fun _ => rfl
  have wl := fC.wl
  have xl := fB.xl
  rw [fold B, fold C]
  refine wSs_step ?_; simp_arith [i53]
  refine ⟨B.W, C.W, rfl, by omega, fun h1 X1 => ?_⟩
  cases hw : tf (∀ w ∈ B.W, WIn w C.W) with
  | false =>
    simp_arith []
    have := k _ X1
    rw [tf_f (fun H => absurd (tf_t H.w) (by rw [hw]; decide))] at this
    exact this
  | true =>
    simp_arith [i54]
    refine wComp_mp fxV (fun p => .bl (decide (p ∈ C.FX))) B.FX (fun _ _ => trivial) (fun p mp h3 X3 => ?_) (by show _ ≤ 16777216; omega) fun h3 X3 => ?_
    · refine ⟨_, rfl, fun G hG => ?_⟩
      unfold ex_ih5
      simp_arith [i54]
      exact inL_fx (hG _ X3)
    · have eb : B.FX.map (fun p => PV.bl (decide (p ∈ C.FX))) = (B.FX.map fun p => decide (p ∈ C.FX)).map PV.bl := by rw [List.map_map]; rfl
      rw [eb]
      simp_arith [new_get]
      refine ⟨_, boolsOf_map _, ?_⟩
      have := k _ (X1.trans (X3.trans (.app (j := [Ob.lst ((B.FX.map fun p => decide (p ∈ C.FX)).map PV.bl)]))))
      rw [tf_is (b := (B.FX.map fun p => decide (p ∈ C.FX)).all id)] at this
      · exact this
      · rw [List.all_map, List.all_eq_true]
        exact ⟨fun H p mp => decide_eq_true (H.x p mp), fun H => ⟨m, n, g, t, of_tf hw, fun p mp => of_decide_eq_true (H p mp)⟩⟩
theorem ih4_ok {B C : Bk} {y2 : Option PV} {h : Hep} {D : Dz} (fB : Form B) (fC : Form C) (m : C.MS = B.MS) (n : B.NT.length ≤ C.NT.length) (g : ∀ p ∈ B.G, ∃ c, (p.1, c) ∈ C.G ∧ c ≤ p.2) (k : ∀ h', Ext h h' → D.rt (.bl (tf (Hard B C))) h') :
    wSs GIh ir_ih4 [some (bkV B), some (bkV C), y2, none, none, none, none, none] h D := by
  unfold ir_ih4
  have i52 : ixN 5 2 = some 2 := rfl
  have fold : ∀ B : Bk, bkV B = .itp [.itp (B.MS.map PV.str), .itp (B.G.map ndV), .itp (B.NT.map tkV), .itp (B.W.map wtV), .itp (B.FX.map fxV)] := fun _ => rfl
  have n2 := fB.n2
  rw [fold B, fold C]
  refine wSs_step ?_; simp_arith [i52]
  rw [enum_z]
  let ok : (Str × Tk) × Nat → Bool := fun p => match C.NT[p.2]? with | some b => tf (HardR p.1.2 b.2) | none => false
  refine wComp_mp _ (fun p => .bl (ok p)) B.NT.zipIdx (fun _ _ => trivial) (fun p mp h3 X3 => ?_) (by rw [List.length_zipIdx]; show _ ≤ 16777216; omega) fun h3 X3 => ?_
  · have lk := List.mem_zipIdx_iff_getElem?.mp mp
    obtain ⟨l, _⟩ := List.getElem?_eq_some_iff.mp lk
    have lc : p.2 < C.NT.length := by omega
    have ex := List.getElem?_eq_getElem lc
    have fa := (fB.t p.1 (List.mem_of_getElem? lk)).2
    have fb := (fC.t _ (List.getElem_mem lc)).2
    have ix : ixN C.NT.length (p.2 : Int) = some p.2 := ixN_nat lc
    refine ⟨_, rfl, fun G hG => ?_⟩
    have hG' : ∀ h3, Ext h h3 → G (.bl (tf (HardR p.1.2 C.NT[p.2].2))) h3 := fun h3 X => by
      have := hG h3 X
      show G (.bl (tf (HardR p.1.2 C.NT[p.2].2))) h3
      have e : ok p = tf (HardR p.1.2 C.NT[p.2].2) := by show (match C.NT[p.2]? with | some b => tf (HardR p.1.2 b.2) | none => false) = _; rw [ex]
      rw [e] at this; exact this
    unfold ex_ih4
    simp_arith [i52, ix, ex]
    exact ⟨p.1, C.NT[p.2], rfl, fb.nn, fun q mq => (fa.n q mq).2.1, by have := fa.nl; omega, fun h4 X4 => hG' h4 (X3.trans X4)⟩
  · have eb : B.NT.zipIdx.map (fun p => PV.bl (ok p)) = (B.NT.zipIdx.map ok).map PV.bl := by rw [List.map_map]; rfl
    rw [eb]
    simp_arith [new_get]
    refine ⟨_, boolsOf_map _, ?_⟩
    have X4 : Ext h (h3 ++ [Ob.lst ((B.NT.zipIdx.map ok).map PV.bl)]) := X3.trans .app
    have iff : TIn B C ↔ (B.NT.zipIdx.map ok).all id = true := by
      rw [List.all_map, List.all_eq_true]
      constructor
      · intro H p mp
        have lk := List.mem_zipIdx_iff_getElem?.mp mp
        obtain ⟨l, _⟩ := List.getElem?_eq_some_iff.mp lk
        have ex := List.getElem?_eq_getElem (show p.2 < C.NT.length by omega)
        show (match C.NT[p.2]? with | some b => tf (HardR p.1.2 b.2) | none => false) = true
        rw [ex]
        exact tf_t (H p.2 _ _ lk ex)
      · intro H i a b ea eb
        have := H (a, i) (List.mem_zipIdx_iff_getElem?.mpr ea)
        have this : (match C.NT[i]? with | some b => tf (HardR a.2 b.2) | none => false) = true := this
        rw [eb] at this
        exact of_tf this
    cases hc : (B.NT.zipIdx.map ok).all id with
    | true =>
      simp_arith []
      rw [← fold B, ← fold C]
      exact ih5_ok fB fC m n g (iff.mpr hc) fun h' X => k h' (X4.trans X)
    | false =>
      simp_arith []
      refine wSs_step ?_; simp_arith []
      have := k _ X4
      rw [tf_f (fun H => absurd (iff.mp H.t) (by rw [hc]; decide))] at this
      exact this
theorem ih3_ok {B C : Bk} {h : Hep} {D : Dz} (fB : Form B) (fC : Form C) (m : C.MS = B.MS) (n : B.NT.length ≤ C.NT.length) (k : ∀ h', Ext h h' → D.rt (.bl (tf (Hard B C))) h') :
    wSs GIh ir_ih3 [some (bkV B), some (bkV C), none, none, none, none, none, none] h D := by
  unfold ir_ih3
  have i51 : ixN 5 1 = some 1 := rfl
  have fold : ∀ B : Bk, bkV B = .itp [.itp (B.MS.map PV.str), .itp (B.G.map ndV), .itp (B.NT.map tkV), .itp (B.W.map wtV), .itp (B.FX.map fxV)] := fun _ => rfl
  have gl := fB.gl
  rw [fold C]
  refine wSs_step ?_; simp_arith [i51]
  refine ⟨_, pairs_nd _, ?_⟩
  rw [sD_is fC.g1, ← fold C]
  have X1 : Ext h (h ++ [Ob.dic (sD C.G)]) := .app
  have e1 := new_get (h := h) (o := Ob.dic (sD C.G))
  generalize hq : h ++ [Ob.dic (sD C.G)] = h1 at *
  generalize hr : h.length = r at *
  rw [fold B]
  try simp_arith []
  refine wSs_step ?_; simp_arith [i51]
  refine wComp_mp ndV (fun p => .bl (decide (getN C.G p.1 100 ≤ p.2))) B.G (fun _ _ => trivial) (fun p mp h3 X3 => ?_) (by show _ ≤ 16777216; omega) fun h3 X3 => ?_
  · refine ⟨_, rfl, fun G hG => ?_⟩
    have kg : keyOf (.str p.1) = some (.one (.inr p.1)) := rfl
    unfold ex_ih3
    simp_arith [X3 _ _ e1, kg, sD_kind]
    rw [sD_getD]
    exact hG _ X3
  · have eb : B.G.map (fun p => PV.bl (decide (getN C.G p.1 100 ≤ p.2))) = (B.G.map fun p => decide (getN C.G p.1 100 ≤ p.2)).map PV.bl := by rw [List.map_map]; rfl
    rw [eb]
    simp_arith [new_get]
    refine ⟨_, boolsOf_map _, ?_⟩
    have X4 : Ext h (h3 ++ [Ob.lst ((B.G.map fun p => decide (getN C.G p.1 100 ≤ p.2)).map PV.bl)]) := X1.trans (X3.trans .app)
    have iff : (∀ p ∈ B.G, ∃ c, (p.1, c) ∈ C.G ∧ c ≤ p.2) ↔ (B.G.map fun p => decide (getN C.G p.1 100 ≤ p.2)).all id = true := by
      rw [List.all_map, List.all_eq_true]
      exact ⟨fun H p mp => decide_eq_true ((getN_le fC.g1 (fB.g2 p mp).2.2).mpr (H p mp)), fun H p mp => (getN_le fC.g1 (fB.g2 p mp).2.2).mp (of_decide_eq_true (H p mp))⟩
    cases hc : (B.G.map fun p => decide (getN C.G p.1 100 ≤ p.2)).all id with
    | true =>
      simp_arith []
      rw [← fold B]
      exact ih4_ok fB fC m n (iff.mpr hc) fun h' X => k h' (X4.trans X)
    | false =>
      simp_arith []
      refine wSs_step ?_; simp_arith []
      have := k _ X4
      rw [tf_f (fun H => absurd (iff.mp H.g) (by rw [hc]; decide))] at this
      exact this
theorem mt_is_harder : Meets GIh 8 2 ir_is_harder sp_is_harder := by
  rintro args h F E ⟨B, C, rfl, fB, fC, k⟩
  refine ⟨rfl, ?_⟩
  rw [show ir_is_harder = .ife (.or (.cmp .NotEq (.idx (.var 1) (.int 0)) (.idx (.var 0) (.int 0))) (.cmp .Lt (.bi .len [(.idx (.var 1) (.int 2))]) (.bi .len [(.idx (.var 0) (.int 2))]))) [.ret (.bl false)] [] :: ir_ih3 from rfl]
  have i50 : ixN 5 0 = some 0 := rfl
  have i52 : ixN 5 2 = some 2 := rfl
  have fold : ∀ B : Bk, bkV B = .itp [.itp (B.MS.map PV.str), .itp (B.G.map ndV), .itp (B.NT.map tkV), .itp (B.W.map wtV), .itp (B.FX.map fxV)] := fun _ => rfl
  have no : ∀ {h'}, ¬ Hard B C → Ext h h' → F (.bl false) h' := fun n X => by have := k _ X; rw [tf_f n] at this; exact this
  show wSs _ _ [some _, some _, none, none, none, none, none, none] h _
  rw [fold B, fold C]
  refine wSs_step ?_; simp_arith [i50]
  refine eqW_strs fC.ms fB.ms ?_
  cases hc : (C.MS == B.MS) with
  | false =>
    simp_arith []
    refine wSs_step ?_; simp_arith []
    exact no (fun H => by have := H.ms; rw [this] at hc; simp at hc) .rfl'
  | true =>
    by_cases c : (C.NT.length : Int) < B.NT.length
    · simp_arith [i52, c]
      refine wSs_step ?_; simp_arith []
      exact no (fun H => by have := H.n; omega) .rfl'
    · simp_arith [i52, c]
      rw [← fold B, ← fold C]
      exact ih3_ok fB fC (by simpa using hc) (by omega) k
end Law

/-! k80e: the law's own look -/
namespace Law
open PySem Z Com
def sp__law_row_due : Z.Spec := fun args h F _ => ∃ a b : Str × Tk, args = [tkV a, tkV b] ∧ a.2.nd.length ≤ 100 ∧ b.2.nd.length ≤ 100 ∧ ∀ h', Ext h h' → F (.bl (tf (HardR a.2 b.2))) h'
def co_rd : Ex := .and (.cmp .Eq (.var 4) (.var 2)) (.cmp .GtE (.var 5) (.var 3))
def ir_rd2 : List Sm := [.for_ (.tp [(.nm 2), (.nm 3)]) (.wlk (.idx (.var 0) (.int 3))) [.ife (.cmp .Eq (.comp [4, 5] (.tp [(.nm 4), (.nm 5)]) (.wlk (.idx (.var 1) (.int 3))) (some co_rd) (.var 5)) (.lst [])) [.ret (.bl false)] []], .ret (.bl true)]
def ir_rd1 : List Sm := .ife (.cmp .IsNot (.idx (.var 0) (.int 5)) .non) [.ife (.or (.cmp .Is (.idx (.var 1) (.int 5)) .non) (.cmp .Gt (.idx (.var 1) (.int 5)) (.idx (.var 0) (.int 5)))) [.ret (.bl false)] []] [] :: ir_rd2
def NIn (p : Str × Int) (nd : List (Str × Int)) : Prop := ∃ c, (p.1, c) ∈ nd ∧ p.2 ≤ c
def qN (p r : Str × Int) : Option Int := if r.1 = p.1 ∧ p.2 ≤ r.2 then some r.2 else none
theorem qN_none {p : Str × Int} {nd : List (Str × Int)} : (nd.filterMap (qN p)).isEmpty = !(tf (NIn p nd)) := by
  cases hc : tf (NIn p nd) with
  | true =>
    obtain ⟨c, m, l⟩ := of_tf hc
    have : c ∈ nd.filterMap (qN p) := List.mem_filterMap.mpr ⟨(p.1, c), m, if_pos ⟨rfl, l⟩⟩
    cases e : nd.filterMap (qN p) with
    | nil => rw [e] at this; cases this
    | cons _ _ => rfl
  | false =>
    cases e : nd.filterMap (qN p) with
    | nil => rfl
    | cons x l =>
      have : x ∈ nd.filterMap (qN p) := by rw [e]; exact List.mem_cons_self
      obtain ⟨r, m, q⟩ := List.mem_filterMap.mp this
      unfold qN at q
      split at q
      · rename_i c
        have := tf_t (show NIn p nd from ⟨r.2, by rw [← c.1]; exact m, c.2⟩)
        rw [hc] at this; cases this
      · cases q
theorem rd2_ok {a b : Str × Tk} {h : Hep} {D : Dz} (la : a.2.nd.length ≤ 100) (lb : b.2.nd.length ≤ 100) (hl : a.2.l ≤ b.2.l) (hm : b.2.mc = a.2.mc) (hf : a.2.fs ≤ b.2.fs) (hd : ∀ d, a.2.due = some d → ∃ e, b.2.due = some e ∧ e ≤ d) (hw : 0 < a.2.wt → b.2.wt ≠ 0)
    (k : ∀ h', Ext h h' → D.rt (.bl (tf (HardR a.2 b.2))) h') : wSs [] ir_rd2 [some (tkV a), some (tkV b), none, none, none, none] h D := by
  unfold ir_rd2
  have i73 : ixN 7 3 = some 3 := rfl
  have fb : tkV b = .itp [.str b.1, .int b.2.l, .str b.2.mc, .itp (b.2.nd.map ndV), .int b.2.fs, dueV b.2.due, .int b.2.wt] := rfl
  have fa : tkV a = .itp [.str a.1, .int a.2.l, .str a.2.mc, .itp (a.2.nd.map ndV), .int a.2.fs, dueV a.2.due, .int a.2.wt] := rfl
  have all_iff : ∀ t : Bool, (a.2.nd.all fun p => tf (NIn p b.2.nd)) = t → tf (HardR a.2 b.2) = t := fun t e => by
    refine tf_is ?_
    rw [← e, List.all_eq_true]
    exact ⟨fun H p m => tf_t (H.nd p m), fun H => ⟨hl, hm, hf, hd, hw, fun p m => of_tf (H p m)⟩⟩
  rw [fa]
  refine wSs_step ?_; simp_arith [i73]
  rw [← fa]
  refine wFor_al (fun σ h' => Ext h h' ∧ ∃ y2 y3, σ = [some (tkV a), some (tkV b), y2, y3, none, none]) (fun h' => Ext h h') ndV (fun p => tf (NIn p b.2.nd)) _ _ _ ⟨.rfl', _, _, rfl⟩ (fun _ _ _ => trivial) (fun p mp σ h2 ⟨X, y2, y3, eσ⟩ => ?_) (fun z h2 X => by have := k h2 X; rw [all_iff _ z] at this; exact this) fun z σ h2 ⟨X, y2, y3, eσ⟩ => ?_
  · subst eσ
    refine ⟨_, rfl, fun K kn ks => ?_⟩
    show wSs _ _ [some _, some _, some (.str p.1), some (.int p.2), none, none] _ _
    rw [fb]
    refine wSs_step ?_; simp_arith [i73]
    refine wComp_fm ndV (qN p) PV.int b.2.nd (fun _ _ => trivial) (fun r mr h3 X3 => ?_) (by show _ ≤ 16777216; omega) fun h3 X3 => ?_
    · refine ⟨_, rfl, fun G hG => ?_, fun h4 X4 c ec G hG => ?_⟩
      · have hG' := hG _ X3
        unfold qN at hG'
        unfold co_rd
        simp_arith []
        refine eqW_txt ?_
        by_cases c1 : r.1 = p.1
        · rw [show (r.1 == p.1) = true by simpa using c1]
          by_cases c2 : p.2 ≤ r.2
          · rw [if_pos ⟨c1, c2⟩] at hG'
            simp_arith [c2]
            exact hG'
          · rw [if_neg (fun z => c2 z.2)] at hG'
            simp_arith [c2]
            exact hG'
        · rw [show (r.1 == p.1) = false by simpa using c1]
          rw [if_neg (fun z => c1 z.1)] at hG'
          simp_arith []
          exact hG'
      · unfold qN at ec
        split at ec
        · cases ec
          simp_arith []
          exact hG _ X4
        · cases ec
    · refine eqW_empty (app_get new_get) new_get ?_
      rw [qN_none]
      cases hc : tf (NIn p b.2.nd) with
      | true =>
        simp_arith []
        rw [← fb]
        exact kn hc _ _ ⟨X.trans (X3.trans (Ext.app.trans .app)), _, _, rfl⟩
      | false =>
        simp_arith []
        refine wSs_step ?_; simp_arith []
        exact ks hc _ (X.trans (X3.trans (Ext.app.trans .app)))
  · subst eσ
    refine wSs_step ?_; simp_arith []
    have := k h2 X
    rw [all_iff _ z] at this
    exact this
theorem rd1_ok {a b : Str × Tk} {h : Hep} {D : Dz} (la : a.2.nd.length ≤ 100) (lb : b.2.nd.length ≤ 100) (hl : a.2.l ≤ b.2.l) (hm : b.2.mc = a.2.mc) (hf : a.2.fs ≤ b.2.fs) (hw : 0 < a.2.wt → b.2.wt ≠ 0)
    (k : ∀ h', Ext h h' → D.rt (.bl (tf (HardR a.2 b.2))) h') : wSs [] ir_rd1 [some (tkV a), some (tkV b), none, none, none, none] h D := by
  unfold ir_rd1
  have i75 : ixN 7 5 = some 5 := rfl
  have fb : tkV b = .itp [.str b.1, .int b.2.l, .str b.2.mc, .itp (b.2.nd.map ndV), .int b.2.fs, dueV b.2.due, .int b.2.wt] := rfl
  have fa : tkV a = .itp [.str a.1, .int a.2.l, .str a.2.mc, .itp (a.2.nd.map ndV), .int a.2.fs, dueV a.2.due, .int a.2.wt] := rfl
  have no : ¬ HardR a.2 b.2 → D.rt (.bl false) h := fun n => by have := k _ .rfl'; rw [tf_f n] at this; exact this
  have w := fun hd => rd2_ok la lb hl hm hf hd hw k
  rw [fa, fb] at w ⊢
  cases hda : a.2.due with
  | none =>
    have w := w fun d e => by rw [hda] at e; cases e
    rw [hda] at w
    unfold dueV at w ⊢
    refine wSs_step ?_; simp_arith [i75]
    exact w
  | some d =>
    cases hdb : b.2.due with
    | none =>
      unfold dueV
      refine wSs_step ?_; simp_arith [i75]
      refine wSs_step ?_; simp_arith [i75]
      refine wSs_step ?_; simp_arith []
      exact no fun H => by obtain ⟨e, h1, _⟩ := H.due d hda; rw [hdb] at h1; cases h1
    | some e =>
      by_cases c : d < e
      · unfold dueV
        refine wSs_step ?_; simp_arith [i75]
        refine wSs_step ?_; simp_arith [i75, c]
        refine wSs_step ?_; simp_arith []
        exact no fun H => by obtain ⟨e', h1, h2⟩ := H.due d hda; rw [hdb] at h1; cases h1; omega
      · have w := w fun d' e' => by rw [hda] at e'; cases e'; exact ⟨e, hdb, by omega⟩
        rw [hda, hdb] at w
        unfold dueV at w ⊢
        refine wSs_step ?_; simp_arith [i75]
        refine wSs_step ?_; simp_arith [i75, c]
        exact w
theorem mt__law_row_due : Meets [] 6 2 ir__law_row_due sp__law_row_due := by
  rintro args h F E ⟨a, b, rfl, la, lb, k⟩
  refine ⟨rfl, ?_⟩
  rw [show ir__law_row_due = .ife (.or (.cmp .Lt (.idx (.var 1) (.int 1)) (.idx (.var 0) (.int 1))) (.or (.cmp .NotEq (.idx (.var 1) (.int 2)) (.idx (.var 0) (.int 2))) (.or (.cmp .Lt (.idx (.var 1) (.int 4)) (.idx (.var 0) (.int 4))) (.and (.cmp .Gt (.idx (.var 0) (.int 6)) (.int 0)) (.cmp .Eq (.idx (.var 1) (.int 6)) (.int 0)))))) [.ret (.bl false)] [] :: ir_rd1 from rfl]
  have i71 : ixN 7 1 = some 1 := rfl
  have i72 : ixN 7 2 = some 2 := rfl
  have i74 : ixN 7 4 = some 4 := rfl
  have i76 : ixN 7 6 = some 6 := rfl
  have fb : tkV b = .itp [.str b.1, .int b.2.l, .str b.2.mc, .itp (b.2.nd.map ndV), .int b.2.fs, dueV b.2.due, .int b.2.wt] := rfl
  have fa : tkV a = .itp [.str a.1, .int a.2.l, .str a.2.mc, .itp (a.2.nd.map ndV), .int a.2.fs, dueV a.2.due, .int a.2.wt] := rfl
  have no : ¬ HardR a.2 b.2 → F (.bl false) h := fun n => by have := k _ .rfl'; rw [tf_f n] at this; exact this
  show wSs _ _ [some _, some _, none, none, none, none] h _
  by_cases c1 : b.2.l < a.2.l
  · rw [fb, fa]
    refine wSs_step ?_; simp_arith [i71, c1]
    refine wSs_step ?_; simp_arith []
    exact no fun H => by have := H.l; omega
  · rw [fb, fa]
    refine wSs_step ?_; simp_arith [i71, c1, i72]
    refine eqW_txt ?_
    cases hc : (b.2.mc == a.2.mc) with
    | false =>
      simp_arith []
      refine wSs_step ?_; simp_arith []
      exact no fun H => by have := H.mc; rw [this] at hc; simp at hc
    | true =>
      by_cases c2 : b.2.fs < a.2.fs
      · simp_arith [i74, c2]
        refine wSs_step ?_; simp_arith []
        exact no fun H => by have := H.fs; omega
      · by_cases c3 : 0 < a.2.wt
        · by_cases c4 : b.2.wt = 0
          · have c4' : (b.2.wt == 0) = true := by simpa using c4
            simp_arith [i74, c2, i76, c3, c4]
            refine wSs_step ?_; simp_arith []
            exact no fun H => H.wt c3 c4
          · have c4' : (b.2.wt == 0) = false := by simpa using c4
            simp_arith [i74, c2, i76, c3, c4]
            rw [← fb, ← fa]
            exact rd1_ok la lb (by omega) (by simpa using hc) (by omega) (fun _ => c4) k
        · simp_arith [i74, c2, i76, c3]
          rw [← fb, ← fa]
          exact rd1_ok la lb (by omega) (by simpa using hc) (by omega) (fun z => absurd z c3) k
end Law

/-! k80f: the law's own look, whole -/
namespace Law
open PySem Z Com
abbrev GDu : List Z.Spec := [sp__law_row_due]
def sp__law_due : Z.Spec := fun args h F _ => ∃ B C : Bk, args = [bkV B, bkV C] ∧ Form B ∧ Form C ∧ ∀ h', Ext h h' → F (.bl (tf (Hard B C))) h'
def co_du1 : Ex := .and (.cmp .Eq (.var 4) (.var 2)) (.cmp .LtE (.var 5) (.var 3))
def co_du3 : Ex := .and (.cmp .Eq (.idx (.var 11) (.int 0)) (.var 8)) (.and (.cmp .Eq (.idx (.var 11) (.int 1)) (.var 9)) (.cmp .GtE (.idx (.var 11) (.int 2)) (.var 10)))
def co_du4 : Ex := .cmp .NotIn (.var 12) (.idx (.var 1) (.int 4))
def ir_du4 : List Sm := [.ret (.cmp .Eq (.comp [12] (.nm 12) (.wlk (.idx (.var 0) (.int 4))) (some co_du4) (.var 12)) (.lst []))]
def ir_du3 : List Sm := .for_ (.tp [(.nm 8), (.nm 9), (.nm 10)]) (.wlk (.idx (.var 0) (.int 3))) [.ife (.cmp .Eq (.comp [11] (.nm 11) (.wlk (.idx (.var 1) (.int 3))) (some co_du3) (.var 11)) (.lst [])) [.ret (.bl false)] []] :: ir_du4
def ir_du2 : List Sm := .for_ (.tp [(.nm 6), (.nm 7)]) (.enum (.idx (.var 0) (.int 2))) [.ife (.not (.call 0 [(.var 7), (.idx (.idx (.var 1) (.int 2)) (.var 6))])) [.ret (.bl false)] []] :: ir_du3
def ir_du1 : List Sm := .for_ (.tp [(.nm 2), (.nm 3)]) (.wlk (.idx (.var 0) (.int 1))) [.ife (.cmp .Eq (.comp [4, 5] (.tp [(.nm 4), (.nm 5)]) (.wlk (.idx (.var 1) (.int 1))) (some co_du1) (.var 5)) (.lst [])) [.ret (.bl false)] []] :: ir_du2
/-- a list of anything beside an empty one -/
theorem eqW_emp {α : Type} {h : Hep} {r q : Nat} {f : α → PV} {l : List α} {K : Bool → Prop} (e1 : h[r]? = some (.lst (l.map f))) (e2 : h[q]? = some (.lst [])) (hd : ∀ x ∈ l, ∃ d, dat h 59 (f x) = some d ∧ d.canLay0 = true) (k : K l.isEmpty) : eqW h (.ref r) (.ref q) K := by
  have : ∀ l : List α, (∀ x ∈ l, ∃ d, dat h 59 (f x) = some d ∧ d.canLay0 = true) → ∃ ds, datAll (dat h 59) (l.map f) = some ds ∧ PyData.canLayAll0 ds = true ∧ ds.isEmpty = l.isEmpty := fun l => by
    induction l with
    | nil => intro _; exact ⟨[], rfl, rfl, rfl⟩
    | cons x l ih =>
      intro hl
      obtain ⟨d, d1, d2⟩ := hl x List.mem_cons_self
      obtain ⟨ds, a, b, _⟩ := ih fun y m => hl y (List.mem_cons_of_mem _ m)
      refine ⟨d :: ds, by rw [List.map_cons, datAll, d1, a], ?_, rfl⟩
      show (d.canLay0 && PyData.canLayAll0 ds) = true
      rw [d2, b]; rfl
  obtain ⟨ds, a, b, c⟩ := this l hd
  refine eqW_of (dat_lst e1 a) (dat_lst e2 (show datAll (dat h 59) [] = some [] from rfl)) b rfl ?_
  have : PyData.eqv (.list ds) (.list []) = l.isEmpty := by
    rw [← c]
    cases ds <;> rfl
  rw [this]; exact k
theorem du4_ok {B C : Bk} {y2 y3 y6 y7 y8 y9 y10 : Option PV} {h : Hep} {D : Dz} (fB : Form B) (fC : Form C) (m : C.MS = B.MS) (n : B.NT.length ≤ C.NT.length) (g : ∀ p ∈ B.G, ∃ c, (p.1, c) ∈ C.G ∧ c ≤ p.2) (t : TIn B C) (w : ∀ w ∈ B.W, WIn w C.W) (k : ∀ h', Ext h h' → D.rt (.bl (tf (Hard B C))) h') :
    wSs GDu ir_du4 [some (bkV B), some (bkV C), y2, y3, none, none, y6, y7, y8, y9, y10, none, none] h D := by
  unfold ir_du4
  have i54 : ixN 5 4 = some 4 := rfl
  have fold : ∀ B : Bk, bkV B = .itp [.itp (B.MS.map PV.str), .itp (B.G.map ndV), .itp (B.NT.map tkV), .itp (B.W.map wtV), .itp (B.FX.map fxV)] := fun _ => rfl
  have xl := fB.xl
  rw [fold B, fold C]
  refine wSs_step ?_; simp_arith [i54]
  let q : Int × Int → Option (Int × Int) := fun p => if p ∈ C.FX then none else some p
  refine wComp_fm fxV q fxV B.FX (fun _ _ => trivial) (fun p mp h3 X3 => ?_) (by show _ ≤ 16777216; omega) fun h3 X3 => ?_
  · refine ⟨_, rfl, fun G hG => ?_, fun h4 X4 c ec G hG => ?_⟩
    · have hG' : G (if p ∈ C.FX then none else some p : Option (Int × Int)).isSome h3 := hG _ X3
      unfold co_du4
      simp_arith [i54]
      refine inL_fx ?_
      by_cases c1 : p ∈ C.FX
      · rw [if_pos c1] at hG'
        rw [decide_eq_true c1]
        exact hG'
      · rw [if_neg c1] at hG'
        rw [decide_eq_false c1]
        exact hG'
    · have ec : (if p ∈ C.FX then none else some p) = some c := ec
      by_cases c1 : p ∈ C.FX
      · rw [if_pos c1] at ec; cases ec
      · rw [if_neg c1] at ec; cases ec
        simp_arith []
        exact hG _ X4
  · refine eqW_emp (app_get new_get) new_get (fun p _ => ⟨.tuple [.int p.1, .int p.2], rfl, rfl⟩) ?_
    have := k _ (X3.trans (Ext.app (j := [Ob.lst ((B.FX.filterMap q).map fxV)]) |>.trans (.app (j := [Ob.lst []]))))
    rw [tf_is (b := (B.FX.filterMap q).isEmpty)] at this
    · exact this
    · rw [List.isEmpty_iff]
      constructor
      · intro H
        rw [List.filterMap_eq_nil_iff]
        intro p mp
        exact if_pos (H.x p mp)
      · intro e
        rw [List.filterMap_eq_nil_iff] at e
        refine ⟨m, n, g, t, w, fun p mp => ?_⟩
        have e : (if p ∈ C.FX then none else some p) = none := e p mp
        by_cases c : p ∈ C.FX
        · exact c
        · rw [if_neg c] at e; cases e
def qW (w v : Wt) : Option Wt := if v.1 = w.1 ∧ v.2.1 = w.2.1 ∧ w.2.2 ≤ v.2.2 then some v else none
theorem qW_none {w : Wt} {V : List Wt} : (V.filterMap (qW w)).isEmpty = !(tf (WIn w V)) := by
  cases hc : tf (WIn w V) with
  | true =>
    obtain ⟨v, m, l⟩ := of_tf hc
    have : v ∈ V.filterMap (qW w) := List.mem_filterMap.mpr ⟨v, m, if_pos l⟩
    cases e : V.filterMap (qW w) with
    | nil => rw [e] at this; cases this
    | cons _ _ => rfl
  | false =>
    cases e : V.filterMap (qW w) with
    | nil => rfl
    | cons x l =>
      have : x ∈ V.filterMap (qW w) := by rw [e]; exact List.mem_cons_self
      obtain ⟨r, m, q⟩ := List.mem_filterMap.mp this
      unfold qW at q
      split at q
      · rename_i c
        have := tf_t (show WIn w V from ⟨r, m, c⟩)
        rw [hc] at this; cases this
      · cases q
theorem du3_ok {B C : Bk} {y2 y3 y6 y7 : Option PV} {h : Hep} {D : Dz} (fB : Form B) (fC : Form C) (m : C.MS = B.MS) (n : B.NT.length ≤ C.NT.length) (g : ∀ p ∈ B.G, ∃ c, (p.1, c) ∈ C.G ∧ c ≤ p.2) (t : TIn B C) (k : ∀ h', Ext h h' → D.rt (.bl (tf (Hard B C))) h') :
    wSs GDu ir_du3 [some (bkV B), some (bkV C), y2, y3, none, none, y6, y7, none, none, none, none, none] h D := by
  unfold ir_du3
  have i53 : ixN 5 3 = some 3 := rfl
  have i30 : ixN 3 0 = some 0 := rfl
  have i31 : ixN 3 1 = some 1 := rfl
  have i32 : ixN 3 2 = some 2 := rfl
  have fold : ∀ B : Bk, bkV B = .itp [.itp (B.MS.map PV.str), .itp (B.G.map ndV), .itp (B.NT.map tkV), .itp (B.W.map wtV), .itp (B.FX.map fxV)] := fun _ => rfl
  have wl := fC.wl
  rw [fold B]
  refine wSs_step ?_; simp_arith [i53]
  rw [← fold B]
  refine wFor_al (fun σ h' => Ext h h' ∧ ∃ y8 y9 y10, σ = [some (bkV B), some (bkV C), y2, y3, none, none, y6, y7, y8, y9, y10, none, none]) (fun h' => Ext h h') wtV (fun w => tf (WIn w C.W)) _ _ _ ⟨.rfl', _, _, _, rfl⟩ (fun _ _ _ => trivial) (fun w mw σ h2 ⟨X, y8, y9, y10, eσ⟩ => ?_) (fun z h2 X => ?_) fun z σ h2 ⟨X, y8, y9, y10, eσ⟩ => ?_
  · subst eσ
    refine ⟨_, rfl, fun K kn ks => ?_⟩
    show wSs _ _ [some _, some _, y2, y3, none, none, y6, y7, some (.int w.1), some (.int w.2.1), some (.int w.2.2), none, none] _ _
    rw [fold C]
    refine wSs_step ?_; simp_arith [i53]
    refine wComp_fm wtV (qW w) wtV C.W (fun _ _ => trivial) (fun v mv h3 X3 => ?_) (by show _ ≤ 16777216; omega) fun h3 X3 => ?_
    · refine ⟨_, rfl, fun G hG => ?_, fun h4 X4 c ec G hG => ?_⟩
      · have hG' := hG _ X3
        unfold qW at hG'
        unfold co_du3 wtV
        by_cases c1 : v.1 = w.1
        · by_cases c2 : v.2.1 = w.2.1
          · by_cases c3 : w.2.2 ≤ v.2.2
            · rw [if_pos ⟨c1, c2, c3⟩] at hG'
              simp_arith [i30, i31, i32, show (v.1 == w.1) = true by simpa using c1, show (v.2.1 == w.2.1) = true by simpa using c2, c1, c2, c3]
              exact hG'
            · rw [if_neg (fun z => c3 z.2.2)] at hG'
              simp_arith [i30, i31, i32, show (v.1 == w.1) = true by simpa using c1, show (v.2.1 == w.2.1) = true by simpa using c2, c1, c2, c3]
              exact hG'
          · rw [if_neg (fun z => c2 z.2.1)] at hG'
            simp_arith [i30, i31, i32, show (v.1 == w.1) = true by simpa using c1, show (v.2.1 == w.2.1) = false by simpa using c2, c1, c2]
            exact hG'
        · rw [if_neg (fun z => c1 z.1)] at hG'
          simp_arith [i30, show (v.1 == w.1) = false by simpa using c1, c1]
          exact hG'
      · unfold qW at ec
        split at ec
        · cases ec
          simp_arith []
          exact hG _ X4
        · cases ec
    · refine eqW_emp (app_get new_get) new_get (fun p _ => ⟨.tuple [.int p.1, .int p.2.1, .int p.2.2], rfl, rfl⟩) ?_
      rw [qW_none]
      cases hc : tf (WIn w C.W) with
      | true =>
        simp_arith []
        rw [← fold C]
        exact kn hc _ _ ⟨X.trans (X3.trans (Ext.app.trans .app)), _, _, _, rfl⟩
      | false =>
        simp_arith []
        refine wSs_step ?_; simp_arith []
        exact ks hc _ (X.trans (X3.trans (Ext.app.trans .app)))
  · have := k h2 X
    rw [tf_f fun H => by
      have : (B.W.all fun w => tf (WIn w C.W)) = true := List.all_eq_true.mpr fun w mw => tf_t (H.w w mw)
      rw [this] at z; cases z] at this
    exact this
  · subst eσ
    exact du4_ok fB fC m n g t (fun w mw => of_tf (List.all_eq_true.mp z w mw)) fun h' X' => k h' (X.trans X')
theorem du2_ok {B C : Bk} {y2 y3 : Option PV} {h : Hep} {D : Dz} (fB : Form B) (fC : Form C) (m : C.MS = B.MS) (n : B.NT.length ≤ C.NT.length) (g : ∀ p ∈ B.G, ∃ c, (p.1, c) ∈ C.G ∧ c ≤ p.2) (k : ∀ h', Ext h h' → D.rt (.bl (tf (Hard B C))) h') :
    wSs GDu ir_du2 [some (bkV B), some (bkV C), y2, y3, none, none, none, none, none, none, none, none, none] h D := by
  unfold ir_du2
  have i52 : ixN 5 2 = some 2 := rfl
  have fold : ∀ B : Bk, bkV B = .itp [.itp (B.MS.map PV.str), .itp (B.G.map ndV), .itp (B.NT.map tkV), .itp (B.W.map wtV), .itp (B.FX.map fxV)] := fun _ => rfl
  let ok : (Str × Tk) × Nat → Bool := fun p => match C.NT[p.2]? with | some b => tf (HardR p.1.2 b.2) | none => false
  have iff : TIn B C ↔ B.NT.zipIdx.all ok = true := by
    rw [List.all_eq_true]
    constructor
    · intro H p mp
      have lk := List.mem_zipIdx_iff_getElem?.mp mp
      obtain ⟨l, _⟩ := List.getElem?_eq_some_iff.mp lk
      have ex := List.getElem?_eq_getElem (show p.2 < C.NT.length by omega)
      show (match C.NT[p.2]? with | some b => tf (HardR p.1.2 b.2) | none => false) = true
      rw [ex]
      exact tf_t (H p.2 _ _ lk ex)
    · intro H i a b ea eb
      have := H (a, i) (List.mem_zipIdx_iff_getElem?.mpr ea)
      have this : (match C.NT[i]? with | some b => tf (HardR a.2 b.2) | none => false) = true := this
      rw [eb] at this
      exact of_tf this
  rw [fold B]
  refine wSs_step ?_; simp_arith [i52]
  rw [← fold B, enum_z]
  refine wFor_al (fun σ h' => Ext h h' ∧ ∃ y6 y7, σ = [some (bkV B), some (bkV C), y2, y3, none, none, y6, y7, none, none, none, none, none]) (fun h' => Ext h h') _ ok _ _ _ ⟨.rfl', _, _, rfl⟩ (fun _ _ _ => trivial) (fun p mp σ h2 ⟨X, y6, y7, eσ⟩ => ?_) (fun z h2 X => ?_) fun z σ h2 ⟨X, y6, y7, eσ⟩ => ?_
  · subst eσ
    have lk := List.mem_zipIdx_iff_getElem?.mp mp
    obtain ⟨l, _⟩ := List.getElem?_eq_some_iff.mp lk
    have lc : p.2 < C.NT.length := by omega
    have ex := List.getElem?_eq_getElem lc
    have fa := (fB.t p.1 (List.mem_of_getElem? lk)).2
    have fb := (fC.t _ (List.getElem_mem lc)).2
    have ix : ixN C.NT.length (p.2 : Int) = some p.2 := ixN_nat lc
    have eo : ok p = tf (HardR p.1.2 C.NT[p.2].2) := by show (match C.NT[p.2]? with | some b => tf (HardR p.1.2 b.2) | none => false) = _; rw [ex]
    refine ⟨_, rfl, fun K kn ks => ?_⟩
    show wSs _ _ [some _, some _, y2, y3, none, none, some (.int p.2), some (tkV p.1), none, none, none, none, none] _ _
    rw [fold C]
    refine wSs_step ?_; simp_arith [i52, ix, ex]
    refine ⟨p.1, C.NT[p.2], rfl, by have := fa.nl; omega, by have := fb.nl; omega, fun h4 X4 => ?_⟩
    rw [eo] at kn ks
    cases hc : tf (HardR p.1.2 C.NT[p.2].2) with
    | true =>
      simp_arith []
      rw [← fold C]
      exact kn hc _ _ ⟨X.trans X4, _, _, rfl⟩
    | false =>
      simp_arith []
      refine wSs_step ?_; simp_arith []
      exact ks hc _ (X.trans X4)
  · have := k h2 X
    rw [tf_f fun H => by rw [iff.mp H.t] at z; cases z] at this
    exact this
  · subst eσ
    have : wSs GDu ir_du3 [some (bkV B), some (bkV C), y2, y3, none, none, y6, y7, none, none, none, none, none] h2 D := du3_ok fB fC m n g (iff.mpr z) fun h' X' => k h' (X.trans X')
    exact this
theorem du1_ok {B C : Bk} {h : Hep} {D : Dz} (fB : Form B) (fC : Form C) (m : C.MS = B.MS) (n : B.NT.length ≤ C.NT.length) (k : ∀ h', Ext h h' → D.rt (.bl (tf (Hard B C))) h') :
    wSs GDu ir_du1 [some (bkV B), some (bkV C), none, none, none, none, none, none, none, none, none, none, none] h D := by
  unfold ir_du1
  have i51 : ixN 5 1 = some 1 := rfl
  have fold : ∀ B : Bk, bkV B = .itp [.itp (B.MS.map PV.str), .itp (B.G.map ndV), .itp (B.NT.map tkV), .itp (B.W.map wtV), .itp (B.FX.map fxV)] := fun _ => rfl
  have gl := fC.gl
  let GIn : Str × Int → Prop := fun p => ∃ c, (p.1, c) ∈ C.G ∧ c ≤ p.2
  let q : Str × Int → Str × Int → Option Int := fun p r => if r.1 = p.1 ∧ r.2 ≤ p.2 then some r.2 else none
  have qn : ∀ p, (C.G.filterMap (q p)).isEmpty = !(tf (GIn p)) := fun p => by
    cases hc : tf (GIn p) with
    | true =>
      obtain ⟨c, m, l⟩ := of_tf hc
      have : c ∈ C.G.filterMap (q p) := List.mem_filterMap.mpr ⟨(p.1, c), m, if_pos ⟨rfl, l⟩⟩
      cases e : C.G.filterMap (q p) with
      | nil => rw [e] at this; cases this
      | cons _ _ => rfl
    | false =>
      cases e : C.G.filterMap (q p) with
      | nil => rfl
      | cons x l =>
        have : x ∈ C.G.filterMap (q p) := by rw [e]; exact List.mem_cons_self
        obtain ⟨r, m, q⟩ := List.mem_filterMap.mp this
        have q : (if r.1 = p.1 ∧ r.2 ≤ p.2 then some r.2 else none) = some x := q
        split at q
        · rename_i c
          have := tf_t (show GIn p from ⟨r.2, by rw [← c.1]; exact m, c.2⟩)
          rw [hc] at this; cases this
        · cases q
  rw [fold B]
  refine wSs_step ?_; simp_arith [i51]
  rw [← fold B]
  refine wFor_al (fun σ h' => Ext h h' ∧ ∃ y2 y3, σ = [some (bkV B), some (bkV C), y2, y3, none, none, none, none, none, none, none, none, none]) (fun h' => Ext h h') ndV (fun p => tf (GIn p)) _ _ _ ⟨.rfl', _, _, rfl⟩ (fun _ _ _ => trivial) (fun p mp σ h2 ⟨X, y2, y3, eσ⟩ => ?_) (fun z h2 X => ?_) fun z σ h2 ⟨X, y2, y3, eσ⟩ => ?_
  · subst eσ
    refine ⟨_, rfl, fun K kn ks => ?_⟩
    show wSs _ _ [some _, some _, some (.str p.1), some (.int p.2), none, none, none, none, none, none, none, none, none] _ _
    rw [fold C]
    refine wSs_step ?_; simp_arith [i51]
    refine wComp_fm ndV (q p) PV.int C.G (fun _ _ => trivial) (fun r mr h3 X3 => ?_) (by show _ ≤ 16777216; omega) fun h3 X3 => ?_
    · refine ⟨_, rfl, fun G hG => ?_, fun h4 X4 c ec G hG => ?_⟩
      · have hG' : G (if r.1 = p.1 ∧ r.2 ≤ p.2 then some r.2 else none : Option Int).isSome h3 := hG _ X3
        unfold co_du1
        simp_arith []
        refine eqW_txt ?_
        by_cases c1 : r.1 = p.1
        · rw [show (r.1 == p.1) = true by simpa using c1]
          by_cases c2 : r.2 ≤ p.2
          · rw [if_pos ⟨c1, c2⟩] at hG'
            simp_arith [c2]
            exact hG'
          · rw [if_neg (fun z => c2 z.2)] at hG'
            simp_arith [c2]
            exact hG'
        · rw [show (r.1 == p.1) = false by simpa using c1]
          rw [if_neg (fun z => c1 z.1)] at hG'
          simp_arith []
          exact hG'
      · have ec : (if r.1 = p.1 ∧ r.2 ≤ p.2 then some r.2 else none) = some c := ec
        split at ec
        · cases ec
          simp_arith []
          exact hG _ X4
        · cases ec
    · refine eqW_empty (app_get new_get) new_get ?_
      rw [qn]
      cases hc : tf (GIn p) with
      | true =>
        simp_arith []
        rw [← fold C]
        exact kn hc _ _ ⟨X.trans (X3.trans (Ext.app.trans .app)), _, _, rfl⟩
      | false =>
        simp_arith []
        refine wSs_step ?_; simp_arith []
        exact ks hc _ (X.trans (X3.trans (Ext.app.trans .app)))
  · have := k h2 X
    rw [tf_f fun H => by
      have : (B.G.all fun p => tf (GIn p)) = true := List.all_eq_true.mpr fun w mw => tf_t (H.g w mw)
      rw [this] at z; cases z] at this
    exact this
  · subst eσ
    exact du2_ok fB fC m n (fun p mp => of_tf (List.all_eq_true.mp z p mp)) fun h' X' => k h' (X.trans X')
theorem mt__law_due : Meets GDu 13 2 ir__law_due sp__law_due := by
  rintro args h F E ⟨B, C, rfl, fB, fC, k⟩
  refine ⟨rfl, ?_⟩
  rw [show ir__law_due = .ife (.or (.cmp .NotEq (.idx (.var 0) (.int 0)) (.idx (.var 1) (.int 0))) (.cmp .Gt (.bi .len [(.idx (.var 0) (.int 2))]) (.bi .len [(.idx (.var 1) (.int 2))]))) [.ret (.bl false)] [] :: ir_du1 from rfl]
  have i50 : ixN 5 0 = some 0 := rfl
  have i52 : ixN 5 2 = some 2 := rfl
  have fold : ∀ B : Bk, bkV B = .itp [.itp (B.MS.map PV.str), .itp (B.G.map ndV), .itp (B.NT.map tkV), .itp (B.W.map wtV), .itp (B.FX.map fxV)] := fun _ => rfl
  have no : ¬ Hard B C → F (.bl false) h := fun n => by have := k _ .rfl'; rw [tf_f n] at this; exact this
  show wSs _ _ [some _, some _, none, none, none, none, none, none, none, none, none, none, none] h _
  rw [fold B, fold C]
  refine wSs_step ?_; simp_arith [i50]
  refine eqW_strs fB.ms fC.ms ?_
  cases hc : (B.MS == C.MS) with
  | false =>
    simp_arith []
    refine wSs_step ?_; simp_arith []
    exact no fun H => by have := H.ms; rw [this] at hc; simp at hc
  | true =>
    by_cases c : (C.NT.length : Int) < B.NT.length
    · simp_arith [i52, c]
      refine wSs_step ?_; simp_arith []
      exact no fun H => by have := H.n; omega
    · simp_arith [i52, c]
      rw [← fold B, ← fold C]
      exact du1_ok fB fC (by simpa using (beq_iff_eq.mp hc).symm) (by omega) k
end Law

/-! k80g: numbers of a script; a task -/
namespace Law
open PySem Z Com
def sp__law_number : Z.Spec := fun args h F _ => ∃ (ns : List Int) (k : Int), args = [.ils (ns.map PV.int), .int k] ∧ ns.length ≤ 63 ∧ 0 ≤ k ∧ k ≤ 10 ^ 9 ∧ ∀ r : Int, 0 ≤ r → r < 2147483629 → F (.int r) h
def ir_nu2 : List Sm := [.set (.nm 5) (.bin .Add (.var 1) (.int 3)),
  .ret (.bin .Mod (.bin .Mult (.bin .Mod (.bin .Add (.bin .Mult (.bin .Mod (.var 2) (.int 2147483629)) (.int 48271)) (.bin .Mult (.bin .Mult (.var 5) (.var 5)) (.int 69621))) (.int 2147483647)) (.int 16807)) (.int 2147483629))]
theorem nu2_ok {k c : Int} {y0 y3 y4 : Option PV} {h : Hep} {D : Dz} (k0 : 0 ≤ k) (k1 : k ≤ 10 ^ 9) (kf : ∀ r : Int, 0 ≤ r → r < 2147483629 → D.rt (.int r) h) : wSs [] ir_nu2 [y0, some (.int k), some (.int c), y3, y4, none] h D := by
  unfold ir_nu2
  have e1 : mulOk (c % 2147483629) 48271 := mulOk_r (by decide) (by decide)
  have e2 : mulOk (k + 3) (k + 3) := mulOk_l (by omega) (by omega)
  have e3 : mulOk ((k + 3) * (k + 3)) 69621 := mulOk_r (by decide) (by decide)
  have e4 : mulOk ((c % 2147483629 * 48271 + (k + 3) * (k + 3) * 69621) % 2147483647) 16807 := mulOk_r (by decide) (by decide)
  refine wSs_step ?_; simp_arith []
  refine wSs_step ?_; simp_arith [e1, e2, e3, e4]
  exact kf _ (Int.emod_nonneg _ (by decide)) (Int.emod_lt_of_pos _ (by decide))
theorem mt__law_number : Meets [] 6 2 ir__law_number sp__law_number := by
  rintro args h F E ⟨ns, k, rfl, hl, k0, k1, kf⟩
  refine ⟨rfl, ?_⟩
  rw [show ir__law_number = .set (.nm 2) (.int 1) :: .ife (.cmp .Gt (.bi .len [(.var 0)]) (.int 0)) [.set (.nm 2) (.idx (.var 0) (.bin .Mod (.var 1) (.bi .len [(.var 0)]))), .set (.nm 3) (.var 2), .for_ (.nm 4) (.rng1 (.bin .Mult (.bin .Mod (.bin .FloorDiv (.var 1) (.bi .len [(.var 0)])) (.int 60)) (.bi .int [(.cmp .Eq (.bin .Mod (.idx (.var 0) (.int 0)) (.int 2)) (.int 1))]))) [.set (.nm 3) (.bin .FloorDiv (.var 3) (.int 2147483629))], .ife (.and (.cmp .Eq (.bin .Mod (.idx (.var 0) (.int 0)) (.int 2)) (.int 1)) (.cmp .Gt (.var 3) (.int 0))) [.ret (.bin .Mod (.var 3) (.int 2147483629))] []] [] :: ir_nu2 from rfl]
  show wSs _ _ [some _, some _, none, none, none, none] h _
  refine wSs_step ?_; simp_arith []
  by_cases lz : (0 : Int) < ns.length
  · have j1 : 0 ≤ k % (ns.length : Int) := Int.emod_nonneg _ (by omega)
    have j2 : k % (ns.length : Int) < ns.length := Int.emod_lt_of_pos _ lz
    have j3 : (k % (ns.length : Int)).toNat < ns.length := by omega
    have z0 : (0 : Nat) < ns.length := by omega
    have i0 : ixN ns.length 0 = some 0 := ixN_nat (n := ns.length) (i := 0) z0
    have dv : divOk (ns.length : Int) := divOk_of lz (by omega)
    have dv2 : divOk 2147483629 := divOk_of (by decide) (by decide)
    refine wSs_step ?_; simp_arith [lz]
    refine wSs_step ?_; simp_arith [lz, ixN_int j1 j2, List.getElem?_eq_getElem j3]
    refine wSs_step ?_; simp_arith []
    have g0 : ns[0]? = some ns[0] := List.getElem?_eq_getElem z0
    have fin : ∀ (c o : Int) (y4 : Option PV) (D : Dz), (∀ r : Int, 0 ≤ r → r < 2147483629 → D.rt (.int r) h) → (∀ y3 y4, D.nx [some (.ils (ns.map PV.int)), some (.int k), some (.int c), y3, y4, none] h) → wSs [] [.ife (.and (.cmp .Eq (.bin .Mod (.idx (.var 0) (.int 0)) (.int 2)) (.int 1)) (.cmp .Gt (.var 3) (.int 0))) [.ret (.bin .Mod (.var 3) (.int 2147483629))] []] [some (.ils (ns.map PV.int)), some (.int k), some (.int c), some (.int o), y4, none] h D := by
      intro c o y4 D hr hn
      by_cases c1 : ns[0] % 2 = 1
      · have c1' : (ns[0] % 2 == 1) = true := by simpa using c1
        by_cases c2 : 0 < o
        · refine wSs_step ?_; simp_arith [i0, g0, c1, c2]
          refine wSs_step ?_; simp_arith []
          exact hr _ (Int.emod_nonneg _ (by decide)) (Int.emod_lt_of_pos _ (by decide))
        · refine wSs_step ?_; simp_arith [i0, g0, c1, c2]
          exact hn _ _
      · refine wSs_step ?_; simp_arith [i0, g0, c1]
        exact hn _ _
    have m0 : 0 ≤ k / (ns.length : Int) % 60 := Int.emod_nonneg _ (by decide)
    have m1 : k / (ns.length : Int) % 60 < 60 := Int.emod_lt_of_pos _ (by decide)
    have mo1 : mulOk (k / (ns.length : Int) % 60) 1 := mulOk_r (by decide) (by decide)
    have mo0 : mulOk (k / (ns.length : Int) % 60) 0 := mulOk_r (by decide) (by decide)
    have loop : ∀ (n : Nat) (D : Dz), (∀ o y4, D.nx [some (.ils (ns.map PV.int)), some (.int k), some (.int ns[(k % (ns.length : Int)).toNat]), some (.int o), y4, none] h) → wFor [] (Tg.nm 4) (fun σ' h' D' => wSs [] [.set (.nm 3) (.bin .FloorDiv (.var 3) (.int 2147483629))] σ' h' D') (rngL 0 n) [some (.ils (ns.map PV.int)), some (.int k), some (.int ns[(k % (ns.length : Int)).toNat]), some (.int ns[(k % (ns.length : Int)).toNat]), none, none] h D := by
      intro n D hn
      refine wFor_ind (fun _ σ h' => h' = h ∧ ∃ o y4, σ = [some (.ils (ns.map PV.int)), some (.int k), some (.int ns[(k % (ns.length : Int)).toNat]), some (.int o), y4, none]) _ _ _ ⟨rfl, _, _, rfl⟩ ?_ ?_
      · rintro x r σ h' ⟨rfl, o, y4, rfl⟩
        refine ⟨trivial, _, rfl, fun K hK => ?_⟩
        refine wSs_step ?_; simp_arith [dv2]
        exact hK _ _ ⟨rfl, _, _, rfl⟩
      · rintro σ h' ⟨rfl, o, y4, rfl⟩
        exact ⟨trivial, hn o y4⟩
    have nx2 : ∀ o y4, wSs [] [.ife (.and (.cmp .Eq (.bin .Mod (.idx (.var 0) (.int 0)) (.int 2)) (.int 1)) (.cmp .Gt (.var 3) (.int 0))) [.ret (.bin .Mod (.var 3) (.int 2147483629))] []] [some (.ils (ns.map PV.int)), some (.int k), some (.int ns[(k % (ns.length : Int)).toNat]), some (.int o), y4, none] h { nx := fun σ' h' => wSs [] ir_nu2 σ' h' { nx := fun _ h' => F .non h', rt := F, ex := fun x _ h' => E x h' }, rt := F, ex := fun x _ h' => E x h' } := fun o y4 => fin _ _ _ _ (fun r r0 r1 => kf r r0 r1) fun y3 y4 => nu2_ok k0 k1 kf
    by_cases c1 : ns[0] % 2 = 1
    · refine wSs_step ?_; simp_arith [dv, i0, g0, c1, mo1]
      refine ⟨by omega, by omega, ?_⟩
      refine loop _ _ ?_
      exact nx2
    · refine wSs_step ?_; simp_arith [dv, i0, g0, c1, mo0]
      refine ⟨by omega, by omega, ?_⟩
      refine loop _ _ ?_
      exact nx2
  · refine wSs_step ?_; simp_arith [lz]
    exact nu2_ok k0 k1 kf
theorem pick {xs : List PV} {i : Int} (h0 : 0 ≤ i) (h1 : i < xs.length) : ∃ j w, ixN xs.length i = some j ∧ xs[j]? = some w ∧ w ∈ xs := by
  have l : i.toNat < xs.length := by omega
  exact ⟨i.toNat, xs[i.toNat], ixN_int h0 h1, List.getElem?_eq_getElem l, List.getElem_mem l⟩
theorem numb_M {ns : List Int} {k : Int} {h : Hep} {G : KQ} {E : KX} (l : ns.length ≤ 63) (k0 : 0 ≤ k) (k1 : k ≤ 10 ^ 9) (f : ∀ r : Int, 0 ≤ r → r < 2147483629 → G (.int r) h) : sp__law_number [.ils (ns.map PV.int), .int k] h G E := ⟨ns, k, rfl, l, k0, k1, f⟩
def tk6 (t : Tk) : PV := .itp [.int t.l, .str t.mc, .itp (t.nd.map ndV), .int t.fs, dueV t.due, .int t.wt]
structure Stock (G : List (Str × Int)) : Prop where
  l : G.length ≤ 4
  nn : (G.map (·.1)).Nodup
  g : ∀ p ∈ G, OkS p.1 ∧ 1 ≤ p.2 ∧ p.2 ≤ 50
def NdIn (nd G : List (Str × Int)) : Prop := ∀ p ∈ nd, ∃ c, (p.1, c) ∈ G ∧ p.2 ≤ c
structure NewT (G : List (Str × Int)) (t : Tk) : Prop where
  f : FormT t
  n : NdIn t.nd G
  l : t.l ≤ 6
  nl : t.nd.length ≤ 4
  fs : t.fs ≤ 6
  wt : t.wt ≤ 2
  du : ∀ d, t.due = some d → d ≤ 30
def sp__law_task : Z.Spec := fun args h F _ => ∃ (ns : List Int) (k : Int) (M : List Str) (G : List (Str × Int)) (gr : Nat), args = [.ils (ns.map PV.int), .int k, .itp (M.map PV.str), .ref gr] ∧ ns.length ≤ 63 ∧ 0 ≤ k ∧ k ≤ 10 ^ 9 ∧ (∀ s ∈ M, OkS s) ∧ M.length ≤ 4 ∧ Stock G ∧ h[gr]? = some (.lst (G.map ndV)) ∧ ∀ t h', NewT G t → Ext h h' → F (tk6 t) h'
def co_ta : Ex := .cmp .Gt (.bin .Mod (.bin .FloorDiv (.var 4) (.idx (.lst [(.int 20), (.int 23), (.int 29), (.int 31)]) (.var 7))) (.int 3)) (.int 0)
def ir_ta2 : List Sm := [.ife co_ta [.exp (.mi .append (.var 6) [(.xtp [(.idx (.var 8) (.int 0)), (.bin .Add (.int 1) (.bin .Mod (.bin .FloorDiv (.var 4) (.idx (.lst [(.int 60), (.int 77), (.int 89), (.int 97)]) (.var 7))) (.idx (.var 8) (.int 1))))])])] []]
theorem ta2_ok {n c : Int} {g : Str} {j nr : Nat} {nd : List (Str × Int)} {y0 y1 y2 y3 y5 : Option PV} {h0 h : Hep} {D : Dz} (n0 : 0 ≤ n) (jl : j < 4) (c1 : 1 ≤ c) (X : Ext h0 h) (nl : h0.length ≤ nr) (en : h[nr]? = some (.lst (nd.map ndV))) (ln : nd.length ≤ 100)
    (k : ∀ (A : List (Str × Int)) h', (A = [] ∨ ∃ v, A = [(g, v)] ∧ 1 ≤ v ∧ v ≤ c) → Ext h0 h' → h'[nr]? = some (.lst ((nd ++ A).map ndV)) → D.nx [y0, y1, y2, y3, some (.int n), y5, some (.ref nr), some (.int j), some (.itp [.str g, .int c]), none, none] h') :
    wSs [sp__law_number] ir_ta2 [y0, y1, y2, y3, some (.int n), y5, some (.ref nr), some (.int j), some (.itp [.str g, .int c]), none, none] h D := by
  unfold ir_ta2 co_ta
  have i20 : ixN 2 0 = some 0 := rfl
  have i21 : ixN 2 1 = some 1 := rfl
  obtain ⟨a, w, a1, a2, a3⟩ := pick (xs := [PV.int 20, .int 23, .int 29, .int 31]) (i := (j : Int)) (by omega) (by show (j : Int) < 4; omega)
  obtain ⟨d, rfl, d1, d2⟩ : ∃ d : Int, w = .int d ∧ 1 ≤ d ∧ d ≤ 100 := by
    simp only [List.mem_cons, List.not_mem_nil, or_false] at a3
    rcases a3 with rfl | rfl | rfl | rfl <;> exact ⟨_, rfl, by decide, by decide⟩
  obtain ⟨b, w, b1, b2, b3⟩ := pick (xs := [PV.int 60, .int 77, .int 89, .int 97]) (i := (j : Int)) (by omega) (by show (j : Int) < 4; omega)
  obtain ⟨e, rfl, e1, e2⟩ : ∃ d : Int, w = .int d ∧ 1 ≤ d ∧ d ≤ 100 := by
    simp only [List.mem_cons, List.not_mem_nil, or_false] at b3
    rcases b3 with rfl | rfl | rfl | rfl <;> exact ⟨_, rfl, by decide, by decide⟩
  have a1 : ixN 4 (j : Int) = some a := a1
  have b1 : ixN 4 (j : Int) = some b := b1
  have dd : divOk d := divOk_of (by omega) (by omega)
  have de : divOk e := divOk_of (by omega) (by omega)
  have X1 : Ext h (h ++ [Ob.lst [PV.int 20, .int 23, .int 29, .int 31]]) := .app
  have en1 := X1 _ _ en
  refine wSs_step ?_
  by_cases cc : 0 < n / d % 3
  · simp_arith [new_get, a1, a2, dd, cc]
    have en2 := app_get (j := [Ob.lst [PV.int 60, .int 77, .int 89, .int 97]]) en1
    have cp : 0 < c := by omega
    have lb : nd.length < 16777216 := by omega
    generalize hq : h ++ [Ob.lst [PV.int 20, .int 23, .int 29, .int 31]] = h1 at *
    refine wSs_step ?_; simp_arith [en1, i20, new_get, b1, b2, de, i21, cp, en2, lb]
    have m0 := Int.emod_nonneg (n / e) (show c ≠ 0 by omega)
    have m1 := Int.emod_lt_of_pos (n / e) cp
    refine k [(g, 1 + n / e % c)] _ (.inr ⟨_, rfl, by omega, by omega⟩) ((X.trans (X1.trans .app)).set' nl) ?_
    rw [set_get en2, List.map_append]; rfl
  · simp_arith [new_get, a1, a2, dd, cc]
    exact k [] _ (.inl rfl) (X.trans X1) (by rw [List.append_nil]; exact en1)
def ir_ta3 : List Sm := [.set (.nm 9) (.idx (.lst [(.int 0), (.int 0), (.bin .Mod (.bin .FloorDiv (.var 4) (.int 400)) (.int 7))]) (.bin .Mod (.bin .FloorDiv (.var 4) (.int 200)) (.int 3))),
  .set (.nm 10) (.idx (.lst [.non, (.bin .Mod (.bin .FloorDiv (.var 4) (.int 3000)) (.int 20)), (.bin .Mod (.bin .FloorDiv (.var 4) (.int 3000)) (.int 9))]) (.bin .Mod (.bin .FloorDiv (.var 4) (.int 7000)) (.int 3))),
  .ret (.xtp [(.bin .Add (.int 1) (.bin .Mod (.var 4) (.int 6))), (.var 5), (.bi .xtuple [(.var 6)]), (.var 9), (.var 10), (.bin .Mod (.bin .FloorDiv (.var 4) (.int 30000)) (.int 3))])]
theorem ta3_ok {n : Int} {s : Str} {nr : Nat} {nd : List (Str × Int)} {y0 y1 y2 y3 y7 y8 : Option PV} {h : Hep} {D : Dz} (n0 : 0 ≤ n) (en : h[nr]? = some (.lst (nd.map ndV)))
    (k : ∀ (t : Tk) h', t.mc = s → t.nd = nd → 1 ≤ t.l → t.l ≤ 6 → 0 ≤ t.fs → t.fs ≤ 6 → (∀ d, t.due = some d → 0 ≤ d ∧ d ≤ 20) → 0 ≤ t.wt → t.wt ≤ 2 → Ext h h' → D.rt (tk6 t) h') :
    wSs [sp__law_number] ir_ta3 [y0, y1, y2, y3, some (.int n), some (.str s), some (.ref nr), y7, y8, none, none] h D := by
  unfold ir_ta3
  have d4 : divOk 400 := divOk_of (by decide) (by decide)
  have d2 : divOk 200 := divOk_of (by decide) (by decide)
  have d3 : divOk 3000 := divOk_of (by decide) (by decide)
  have d7 : divOk 7000 := divOk_of (by decide) (by decide)
  have d30 : divOk 30000 := divOk_of (by decide) (by decide)
  have q0 := Int.emod_nonneg (n / 200) (show (3 : Int) ≠ 0 by decide)
  have q1 := Int.emod_lt_of_pos (n / 200) (show (0 : Int) < 3 by decide)
  obtain ⟨a, w, a1, a2, a3⟩ := pick (xs := [PV.int 0, .int 0, .int (n / 400 % 7)]) (i := n / 200 % 3) q0 (by show n / 200 % 3 < 3; exact q1)
  obtain ⟨f, rfl, f1, f2⟩ : ∃ d : Int, w = .int d ∧ 0 ≤ d ∧ d ≤ 6 := by
    have := Int.emod_nonneg (n / 400) (show (7 : Int) ≠ 0 by decide)
    have := Int.emod_lt_of_pos (n / 400) (show (0 : Int) < 7 by decide)
    simp only [List.mem_cons, List.not_mem_nil, or_false] at a3
    rcases a3 with rfl | rfl | rfl
    · exact ⟨_, rfl, by decide, by decide⟩
    · exact ⟨_, rfl, by decide, by decide⟩
    · exact ⟨_, rfl, by omega, by omega⟩
  have p0 := Int.emod_nonneg (n / 7000) (show (3 : Int) ≠ 0 by decide)
  have p1 := Int.emod_lt_of_pos (n / 7000) (show (0 : Int) < 3 by decide)
  obtain ⟨b, w, b1, b2, b3⟩ := pick (xs := [PV.non, .int (n / 3000 % 20), .int (n / 3000 % 9)]) (i := n / 7000 % 3) p0 (by show n / 7000 % 3 < 3; exact p1)
  obtain ⟨due, rfl, hd⟩ : ∃ d : Option Int, w = dueV d ∧ ∀ e, d = some e → 0 ≤ e ∧ e ≤ 20 := by
    have := Int.emod_nonneg (n / 3000) (show (20 : Int) ≠ 0 by decide)
    have := Int.emod_lt_of_pos (n / 3000) (show (0 : Int) < 20 by decide)
    have := Int.emod_nonneg (n / 3000) (show (9 : Int) ≠ 0 by decide)
    have := Int.emod_lt_of_pos (n / 3000) (show (0 : Int) < 9 by decide)
    simp only [List.mem_cons, List.not_mem_nil, or_false] at b3
    rcases b3 with rfl | rfl | rfl
    · exact ⟨none, rfl, fun e z => nomatch z⟩
    · exact ⟨some _, rfl, fun e z => by cases z; omega⟩
    · exact ⟨some _, rfl, fun e z => by cases z; omega⟩
  have a1 : ixN 3 (n / 200 % 3) = some a := a1
  have b1 : ixN 3 (n / 7000 % 3) = some b := b1
  refine wSs_step ?_; simp_arith [d4, d2, new_get, a1, a2]
  have X1 : Ext h (h ++ [Ob.lst [PV.int 0, .int 0, .int (n / 400 % 7)]]) := .app
  have en1 := X1 _ _ en
  generalize hq : h ++ [Ob.lst [PV.int 0, .int 0, .int (n / 400 % 7)]] = h1 at *
  refine wSs_step ?_; simp_arith [d3, d7, new_get, b1, b2]
  have X2 : Ext h1 (h1 ++ [Ob.lst [PV.non, .int (n / 3000 % 20), .int (n / 3000 % 9)]]) := .app
  have en2 := X2 _ _ en1
  generalize hq2 : h1 ++ [Ob.lst [PV.non, .int (n / 3000 % 20), .int (n / 3000 % 9)]] = h2 at *
  refine wSs_step ?_; simp_arith [en2, d30]
  have := Int.emod_nonneg n (show (6 : Int) ≠ 0 by decide)
  have := Int.emod_lt_of_pos n (show (0 : Int) < 6 by decide)
  have := Int.emod_nonneg (n / 30000) (show (3 : Int) ≠ 0 by decide)
  have := Int.emod_lt_of_pos (n / 30000) (show (0 : Int) < 3 by decide)
  exact k ⟨1 + n % 6, s, nd, f, due, n / 30000 % 3⟩ _ rfl rfl (by show 1 ≤ 1 + n % 6; omega) (by show 1 + n % 6 ≤ 6; omega) f1 f2 hd (by assumption) (by show n / 30000 % 3 ≤ 2; omega) (X1.trans X2)
theorem zip_fst {α : Type} : ∀ (l : List α) (k : Nat), (l.zipIdx k).map (·.1) = l
  | [], _ => rfl
  | x :: l, k => by rw [List.zipIdx_cons, List.map_cons, zip_fst l (k + 1)]
theorem ok_empty : OkS (Str.ofString "") := by unfold OkS; decide +kernel
theorem mt__law_task : Meets [sp__law_number] 11 4 ir__law_task sp__law_task := by
  rintro args h F E ⟨ns, k, M, G, gr, rfl, l, k0, k1, hM, lM, sG, eg, kf⟩
  refine ⟨rfl, ?_⟩
  rw [show ir__law_task = .set (.nm 4) (.call 0 [(.var 0), (.var 1)]) :: .set (.nm 5) (.idx (.bin .Add (.xtp [(.str "")]) (.var 2)) (.bin .Mod (.bin .FloorDiv (.var 4) (.int 6)) (.bin .Add (.bi .len [(.var 2)]) (.int 1)))) :: .set (.nm 6) (.lst []) :: .for_ (.tp [(.nm 7), (.nm 8)]) (.enum (.var 3)) ir_ta2 :: ir_ta3 from rfl]
  have d6 : divOk 6 := divOk_of (by decide) (by decide)
  show wSs _ _ [some _, some _, some _, some _, none, none, none, none, none, none, none] h _
  refine wSs_step ?_; simp_arith []
  refine numb_M l k0 k1 fun n n0 n1 => ?_
  try simp_arith []
  have q0 := Int.emod_nonneg (n / 6) (show ((M.length : Int) + 1) ≠ 0 by omega)
  have q1 := Int.emod_lt_of_pos (n / 6) (show (0 : Int) < (M.length : Int) + 1 by omega)
  obtain ⟨a, w, a1, a2, a3⟩ := pick (xs := PV.str (Str.ofString "") :: M.map PV.str) (i := n / 6 % ((M.length : Int) + 1)) q0 (by rw [List.length_cons, List.length_map]; omega)
  obtain ⟨s, rfl, os⟩ : ∃ s, w = .str s ∧ OkS s := by
    rcases List.mem_cons.mp a3 with e | e
    · exact ⟨_, e, ok_empty⟩
    · obtain ⟨s, ms, rfl⟩ := List.mem_map.mp e
      exact ⟨s, rfl, hM s ms⟩
  rw [List.length_cons, List.length_map] at a1
  have mp : (0 : Int) < (M.length : Int) + 1 := by omega
  have lb : M.length ≤ 16777215 := by omega
  have lb2 : 1 + M.length ≤ 16777216 := by omega
  have lb3 : M.length + 1 ≤ 16777216 := by omega
  refine wSs_step ?_; simp_arith [d6, mp, lb, lb2, lb3, a1, a2]
  refine wSs_step ?_; simp_arith []
  have X1 : Ext h (h ++ [Ob.lst []]) := .app
  have e1 := new_get (h := h) (o := Ob.lst [])
  generalize hq : h ++ [Ob.lst []] = h1 at *
  generalize hr : h.length = nr at *
  have eg1 := X1 _ _ eg
  refine wSs_step ?_; simp_arith [eg1]
  rw [enum_z]
  refine wFor_ind (fun rest σ h' => ∃ (A R : List ((Str × Int) × Nat)) (nd : List (Str × Int)) (y7 y8 : Option PV), G.zipIdx = A ++ R ∧ rest = R.map (fun p => PV.tup [.int p.2, ndV p.1]) ∧ Ext h h' ∧ h'[nr]? = some (.lst (nd.map ndV)) ∧ (nd.map (·.1)).Sublist (A.map (·.1.1)) ∧ (∀ p ∈ nd, ∃ c, (p.1, c) ∈ G ∧ 1 ≤ p.2 ∧ p.2 ≤ c) ∧ σ = [some (.ils (ns.map PV.int)), some (.int k), some (.itp (M.map PV.str)), some (.ref gr), some (.int n), some (.str s), some (.ref nr), y7, y8, none, none]) _ _ _ ⟨[], _, [], _, _, rfl, rfl, X1, e1, List.Sublist.refl _, (fun p z => nomatch z), rfl⟩ ?_ ?_
  · rintro x rest σ h' ⟨A, R, nd, y7, y8, eA, eR, X, en, sub, hn, rfl⟩
    obtain ⟨p, R, rfl, rfl, rfl⟩ : ∃ a B', R = a :: B' ∧ x = PV.tup [.int a.2, ndV a.1] ∧ rest = B'.map (fun p => PV.tup [.int p.2, ndV p.1]) := by
      cases R with
      | nil => cases eR
      | cons a B' => cases eR; exact ⟨a, B', rfl, rfl, rfl⟩
    have mp : p ∈ G.zipIdx := by rw [eA]; simp
    have lk := List.mem_zipIdx_iff_getElem?.mp mp
    have pm : p.1 ∈ G := List.mem_of_getElem? lk
    obtain ⟨pl, _⟩ := List.getElem?_eq_some_iff.mp lk
    have gl := sG.l
    obtain ⟨_, c1, _⟩ := sG.g p.1 pm
    have ll : nd.length ≤ A.length := by have := sub.length_le; rw [List.length_map, List.length_map] at this; exact this
    have lA := congrArg List.length eA
    rw [List.length_zipIdx, List.length_append] at lA
    refine ⟨⟨X _ _ eg, trivial⟩, _, rfl, fun K hK => ?_⟩
    show wSs _ _ [some _, some _, some _, some _, some _, some _, some _, some (.int p.2), some (.itp [.str p.1.1, .int p.1.2]), none, none] _ _
    refine ta2_ok (h0 := h) n0 (by omega) c1 X (by omega) en (by omega) fun B h2 hB X2 en2 => ?_
    refine hK _ _ ⟨A ++ [p], R, nd ++ B, _, _, by rw [eA, List.append_assoc]; rfl, rfl, X2, en2, ?_, fun q mq => ?_, rfl⟩
    · rw [List.map_append, List.map_append]
      rcases hB with rfl | ⟨v, rfl, _⟩
      · exact sub.append (List.nil_sublist _)
      · exact sub.append (List.Sublist.refl _)
    · rcases List.mem_append.mp mq with mq | mq
      · exact hn q mq
      · rcases hB with rfl | ⟨v, rfl, v1, v2⟩
        · cases mq
        · rw [List.mem_singleton.mp mq]
          exact ⟨p.1.2, pm, v1, v2⟩
  · rintro σ h' ⟨A, R, nd, y7, y8, eA, eR, X, en, sub, hn, rfl⟩
    have : R = [] := by cases R with | nil => rfl | cons _ _ => cases eR
    subst this
    rw [List.append_nil] at eA
    have eAG : A.map (·.1.1) = G.map (·.1) := by
      rw [← eA, show (fun x : (Str × Int) × Nat => x.1.1) = (·.1) ∘ (·.1) from rfl, ← List.map_map, zip_fst]
    rw [eAG] at sub
    have gl := sG.l
    have ll : nd.length ≤ 4 := by have := sub.length_le; rw [List.length_map, List.length_map] at this; omega
    refine ⟨⟨X _ _ eg, trivial⟩, ?_⟩
    refine ta3_ok n0 en fun t h2 t1 t2 l1 l2 f1 f2 hd w1 w2 X2 => ?_
    subst t1
    subst t2
    refine kf t h2 ⟨⟨l1, by omega, os, sub.nodup sG.nn, by omega, fun p mp => ?_, f1, by omega, fun d e => by have := hd d e; omega, w1, by omega⟩, fun p mp => ?_, l2, ll, f2, w2, fun d e => by have := hd d e; omega⟩ (X.trans X2)
    · obtain ⟨c, mc, v1, v2⟩ := hn p mp
      obtain ⟨o, _, c2⟩ := sG.g _ mc
      exact ⟨o, v1, by have c2 : c ≤ 50 := c2; omega⟩
    · obtain ⟨c, mc, v1, v2⟩ := hn p mp
      exact ⟨c, mc, v2⟩
end Law

/-! k80h: a book: machines, goods -/
namespace Law
open PySem Z Com
abbrev GBk : List Z.Spec := [sp__law_number, sp__law_task]
theorem cutL_tk {α : Type} (xs : List α) (i : Int) (h : 0 ≤ i) : cutL xs none (some i) = xs.take i.toNat := by
  unfold cutL
  have e : sIx xs.length xs.length (some i) = min i.toNat xs.length := by
    rw [show i = ((i.toNat : Nat) : Int) by omega]
    exact HT.sIx_nat _ _ _
  have e2 : sIx xs.length 0 none = 0 := rfl
  rw [e, e2, List.drop_zero, Nat.sub_zero]
  by_cases c : i.toNat ≤ xs.length
  · rw [Nat.min_eq_left c]
  · rw [Nat.min_eq_right (by omega), List.take_of_length_le (Nat.le_refl _), List.take_of_length_le (by omega)]
theorem cutL_dr {α : Type} (xs : List α) (i : Int) (h : 0 ≤ i) : cutL xs (some i) none = xs.drop i.toNat := by
  unfold cutL
  have e : sIx xs.length 0 (some i) = min i.toNat xs.length := by
    rw [show i = ((i.toNat : Nat) : Int) by omega]
    exact HT.sIx_nat _ _ _
  have e2 : sIx xs.length xs.length none = xs.length := rfl
  rw [e, e2]
  by_cases c : i.toNat ≤ xs.length
  · rw [Nat.min_eq_left c, List.take_of_length_le (by rw [List.length_drop]; omega)]
  · rw [Nat.min_eq_right (by omega), List.drop_of_length_le (Nat.le_refl _), List.drop_of_length_le (by omega), List.take_nil]
def mS8 : List Str := [Str.ofString "saw", Str.ofString "m", Str.ofString "lathe", Str.ofString "n", Str.ofString "saw", Str.ofString "m", Str.ofString "lathe", Str.ofString "n"]
def gS8 : List Str := [Str.ofString "room", Str.ofString "hand", Str.ofString "b", Str.ofString "zinc", Str.ofString "room", Str.ofString "hand", Str.ofString "b", Str.ofString "zinc"]
theorem mS8_ok : ∀ s ∈ mS8, OkS s := by unfold OkS; decide +kernel
theorem gS8_ok : ∀ s ∈ gS8, OkS s := by unfold OkS; decide +kernel
theorem gS8_nd : ∀ d ∈ [0, 1, 2, 3], ((gS8.drop d).take 4).Nodup := by decide +kernel
def ir_b2 : Sm := .set (.nm 4) (.bi .xtuple [(.slc (.slc (.bin .Mult (.lst [(.str "saw"), (.str "m"), (.str "lathe"), (.str "n")]) (.int 2)) (some (.bin .Mod (.bin .FloorDiv (.var 3) (.int 5)) (.int 4))) none) none (some (.idx (.lst [(.int 0), (.int 1), (.int 2), (.int 4)]) (.bin .Mod (.var 3) (.int 4)))))])
theorem pick4 {n : Int} : ∃ (j : Nat) (e : Int), ixN 4 (n % 4) = some j ∧ [PV.int 0, PV.int 1, PV.int 2, PV.int 4][j]? = some (.int e) ∧ 0 ≤ e ∧ e ≤ 4 := by
  have q0 := Int.emod_nonneg n (show (4 : Int) ≠ 0 by decide)
  have q1 := Int.emod_lt_of_pos n (show (0 : Int) < 4 by decide)
  obtain ⟨j, w, j1, j2, j3⟩ := pick (xs := [PV.int 0, .int 1, .int 2, .int 4]) (i := n % 4) q0 (by show n % 4 < 4; exact q1)
  simp only [List.mem_cons, List.not_mem_nil, or_false] at j3
  rcases j3 with rfl | rfl | rfl | rfl
  · exact ⟨j, _, j1, j2, by decide, by decide⟩
  · exact ⟨j, _, j1, j2, by decide, by decide⟩
  · exact ⟨j, _, j1, j2, by decide, by decide⟩
  · exact ⟨j, _, j1, j2, by decide, by decide⟩
theorem b2_ok {n : Int} {y0 y1 y2 : Option PV} {Y : Z.Env} {R : List Sm} {h : Hep} {D : Dz} (n0 : 0 ≤ n)
    (k : ∀ (M : List Str) h', (∀ s ∈ M, OkS s) → M.length ≤ 4 → Ext h h' → wSs GBk R (y0 :: y1 :: y2 :: some (.int n) :: some (.itp (M.map PV.str)) :: Y) h' D) :
    wSs GBk (ir_b2 :: R) (y0 :: y1 :: y2 :: some (.int n) :: none :: Y) h D := by
  unfold ir_b2
  have d5 : divOk 5 := divOk_of (by decide) (by decide)
  obtain ⟨j, e, j1, j2, e0, e4⟩ := pick4 (n := n)
  have q0 := Int.emod_nonneg (n / 5) (show (4 : Int) ≠ 0 by decide)
  have em : [PV.str (Str.ofString "saw"), PV.str (Str.ofString "m"), PV.str (Str.ofString "lathe"), PV.str (Str.ofString "n"), PV.str (Str.ofString "saw"), PV.str (Str.ofString "m"), PV.str (Str.ofString "lathe"), PV.str (Str.ofString "n")] = mS8.map PV.str := rfl
  refine wSs_step ?_; simp_arith [d5, new_get, List.flatten_cons, List.flatten_nil]
  refine ⟨by decide, j, j1, _, j2, ?_⟩
  simp_arith [app_get new_get]
  rw [em, cutL_dr _ _ q0, cutL_tk _ _ e0, ← List.map_drop, ← List.map_take]
  refine k _ _ (fun s m => mS8_ok s (List.mem_of_mem_drop (List.mem_of_mem_take m))) (by rw [List.length_take]; omega) ?_
  exact Ext.app.trans (Ext.app.trans (Ext.app.trans (Ext.app.trans .app)))
def ir_b3 : Sm := .set (.nm 5) (.slc (.bin .Mult (.lst [(.str "room"), (.str "hand"), (.str "b"), (.str "zinc")]) (.int 2)) (some (.bin .Mod (.bin .FloorDiv (.var 3) (.int 11)) (.int 4))) none)
theorem b3_ok {n : Int} {y0 y1 y2 y4 : Option PV} {Y : Z.Env} {R : List Sm} {h : Hep} {D : Dz} (n0 : 0 ≤ n)
    (k : ∀ (S : List Str) r h', (∀ s ∈ S, OkS s) → 4 ≤ S.length → (S.take 4).Nodup → h.length ≤ r → h'[r]? = some (.lst (S.map PV.str)) → Ext h h' → wSs GBk R (y0 :: y1 :: y2 :: some (.int n) :: y4 :: some (.ref r) :: Y) h' D) :
    wSs GBk (ir_b3 :: R) (y0 :: y1 :: y2 :: some (.int n) :: y4 :: none :: Y) h D := by
  unfold ir_b3
  have d11 : divOk 11 := divOk_of (by decide) (by decide)
  have q0 := Int.emod_nonneg (n / 11) (show (4 : Int) ≠ 0 by decide)
  have q1 := Int.emod_lt_of_pos (n / 11) (show (0 : Int) < 4 by decide)
  have em : [PV.str (Str.ofString "room"), PV.str (Str.ofString "hand"), PV.str (Str.ofString "b"), PV.str (Str.ofString "zinc"), PV.str (Str.ofString "room"), PV.str (Str.ofString "hand"), PV.str (Str.ofString "b"), PV.str (Str.ofString "zinc")] = gS8.map PV.str := rfl
  refine wSs_step ?_; simp_arith [d11, new_get, List.flatten_cons, List.flatten_nil]
  refine ⟨by decide, ?_⟩
  rw [em, cutL_dr _ _ q0, ← List.map_drop]
  refine k _ _ _ (fun s m => gS8_ok s (List.mem_of_mem_drop m)) ?_ ?_ ?_ new_get (Ext.app.trans (Ext.app.trans .app))
  · rw [List.length_drop]; show 4 ≤ 8 - _; omega
  · refine gS8_nd _ ?_
    simp only [List.mem_cons, List.not_mem_nil, or_false]
    omega
  · rw [List.length_append, List.length_append]; omega
def ir_b5t : List Sm := [.exp (.mi .append (.var 6) [(.xtp [(.idx (.var 5) (.var 7)), (.bin .Add (.int 1) (.bin .Mod (.bin .FloorDiv (.var 3) (.idx (.lst [(.int 3), (.int 27), (.int 43), (.int 61)]) (.var 7))) (.idx (.lst [(.int 3), (.int 2), (.int 3), (.int 2)]) (.var 7))))])])]
def ir_b5 : Sm := .for_ (.nm 7) (.rng1 (.idx (.lst [(.int 0), (.int 1), (.int 2), (.int 4)]) (.bin .Mod (.bin .FloorDiv (.var 3) (.int 9)) (.int 4)))) ir_b5t
theorem b5_ok {n : Int} {S : List Str} {sr gr : Nat} {y0 y1 y2 y4 : Option PV} {Y : Z.Env} {R : List Sm} {h0 h : Hep} {D : Dz} (n0 : 0 ≤ n) (hS : ∀ s ∈ S, OkS s) (lS : 4 ≤ S.length) (nS : (S.take 4).Nodup) (es : h[sr]? = some (.lst (S.map PV.str))) (eg : h[gr]? = some (.lst [])) (X0 : Ext h0 h) (gl : h0.length ≤ gr)
    (k : ∀ (G : List (Str × Int)) y7 h', Stock G → h'[gr]? = some (.lst (G.map ndV)) → Ext h0 h' → wSs GBk R (y0 :: y1 :: y2 :: some (.int n) :: y4 :: some (.ref sr) :: some (.ref gr) :: y7 :: Y) h' D) :
    wSs GBk (ir_b5 :: R) (y0 :: y1 :: y2 :: some (.int n) :: y4 :: some (.ref sr) :: some (.ref gr) :: none :: Y) h D := by
  unfold ir_b5
  have d9 : divOk 9 := divOk_of (by decide) (by decide)
  obtain ⟨j, e, j1, j2, e0, e4⟩ := pick4 (n := n / 9)
  refine wSs_step ?_; simp_arith [d9, new_get]
  refine ⟨j, j1, _, j2, ?_⟩
  simp_arith []
  refine ⟨by omega, by omega, ?_⟩
  have ne : sr ≠ gr := fun z => by
    rw [z, eg] at es
    injection es with es
    injection es with es
    cases S with
    | nil => simp at lS
    | cons _ _ => cases es
  have Xa : Ext h (h ++ [Ob.lst [PV.int 0, .int 1, .int 2, .int 4]]) := .app
  refine wFor_ind (fun rest σ h' => ∃ (G : List (Str × Int)) (y7 : Option PV), rest = (rngL (G.length : Int) (e.toNat - G.length)) ∧ G.length ≤ e.toNat ∧ G.map (·.1) = S.take G.length ∧ (∀ p ∈ G, OkS p.1 ∧ 1 ≤ p.2 ∧ p.2 ≤ 50) ∧ Ext h0 h' ∧ h'[sr]? = some (.lst (S.map PV.str)) ∧ h'[gr]? = some (.lst (G.map ndV)) ∧ σ = y0 :: y1 :: y2 :: some (.int n) :: y4 :: some (.ref sr) :: some (.ref gr) :: y7 :: Y) _ _ _ ⟨[], _, by show rngL 0 e.toNat = rngL ((0 : Nat) : Int) (e.toNat - 0); rfl, Nat.zero_le _, rfl, (fun p z => nomatch z), X0.trans Xa, Xa _ _ es, Xa _ _ eg, rfl⟩ ?_ ?_
  · rintro x rest σ h' ⟨G, y7, er, lG, eG, hG, X, es', eg', rfl⟩
    have lt : 0 < e.toNat - G.length := by
      apply Nat.pos_of_ne_zero
      intro z
      rw [z] at er
      cases er
    obtain ⟨m, hm⟩ : ∃ m, e.toNat - G.length = m + 1 := ⟨e.toNat - G.length - 1, by omega⟩
    have rs : rngL (G.length : Int) (m + 1) = PV.int (G.length : Int) :: rngL ((G.length + 1 : Nat) : Int) m := by
      unfold rngL
      rw [List.range_succ_eq_map, List.map_cons, List.map_map]
      refine List.cons_eq_cons.mpr ⟨?_, List.map_congr_left fun i _ => ?_⟩
      · show PV.int ((G.length : Int) + ((0 : Nat) : Int)) = _
        exact congrArg PV.int (by omega)
      · show PV.int ((G.length : Int) + ((i + 1 : Nat) : Int)) = PV.int (((G.length + 1 : Nat) : Int) + (i : Int))
        congr 1; omega
    rw [hm, rs] at er
    cases er
    refine ⟨trivial, _, rfl, fun K hK => ?_⟩
    show wSs _ _ (y0 :: y1 :: y2 :: some (.int n) :: y4 :: some (.ref sr) :: some (.ref gr) :: some (.int (G.length : Int)) :: Y) _ _
    obtain ⟨a, w, a1, a2, a3⟩ := pick (xs := [PV.int 3, .int 27, .int 43, .int 61]) (i := (G.length : Int)) (by omega) (by show (G.length : Int) < 4; omega)
    obtain ⟨u, rfl, u1, u2⟩ : ∃ d : Int, w = .int d ∧ 1 ≤ d ∧ d ≤ 100 := by
      simp only [List.mem_cons, List.not_mem_nil, or_false] at a3
      rcases a3 with rfl | rfl | rfl | rfl <;> exact ⟨_, rfl, by decide, by decide⟩
    obtain ⟨b, w, b1, b2, b3⟩ := pick (xs := [PV.int 3, .int 2, .int 3, .int 2]) (i := (G.length : Int)) (by omega) (by show (G.length : Int) < 4; omega)
    obtain ⟨c, rfl, c1, c2⟩ : ∃ d : Int, w = .int d ∧ 1 ≤ d ∧ d ≤ 3 := by
      simp only [List.mem_cons, List.not_mem_nil, or_false] at b3
      rcases b3 with rfl | rfl | rfl | rfl <;> exact ⟨_, rfl, by decide, by decide⟩
    have a1 : ixN 4 (G.length : Int) = some a := a1
    have b1 : ixN 4 (G.length : Int) = some b := b1
    obtain rfl : a = b := Option.some.inj (a1.symm.trans b1)
    have du : divOk u := divOk_of (by omega) (by omega)
    have cp : 0 < c := by omega
    have ls : G.length < S.length := by omega
    have ix : ixN S.length (G.length : Int) = some G.length := ixN_nat ls
    have lb : G.length < 16777216 := by omega
    have eg2 := app_get (j := [Ob.lst [PV.int 3, .int 2, .int 3, .int 2]]) (app_get (j := [Ob.lst [PV.int 3, .int 27, .int 43, .int 61]]) eg')
    unfold ir_b5t
    refine wSs_step ?_
    simp_arith [eg', es', ix, List.getElem?_eq_getElem ls]
    simp_arith [new_get, a1, a2, du, b1, b2, cp, eg2, lb]
    have m0 := Int.emod_nonneg (n / u) (show c ≠ 0 by omega)
    have m1 := Int.emod_lt_of_pos (n / u) cp
    refine hK _ _ ⟨G ++ [(S[G.length], 1 + n / u % c)], _, ?_, by rw [List.length_append]; show G.length + 1 ≤ _; omega, ?_, fun p mp => ?_, (X.trans (Ext.app.trans .app)).set' gl, ?_, ?_, rfl⟩
    · rw [List.length_append]
      show rngL ((G.length + 1 : Nat) : Int) m = rngL ((G.length + 1 : Nat) : Int) (e.toNat - (G.length + 1))
      congr 1; omega
    · rw [List.map_append, eG, List.length_append]
      show S.take G.length ++ [S[G.length]] = S.take (G.length + 1)
      rw [List.take_succ_eq_append_getElem ls]
    · rcases List.mem_append.mp mp with mp | mp
      · exact hG p mp
      · rw [List.mem_singleton.mp mp]
        exact ⟨hS _ (List.getElem_mem ls), by show 1 ≤ 1 + n / u % c; omega, by show 1 + n / u % c ≤ 50; omega⟩
    · rw [List.getElem?_set_ne (Ne.symm ne)]
      exact app_get (app_get es')
    · rw [set_get eg2, List.map_append]; rfl
  · rintro σ h' ⟨G, y7, er, lG, eG, hG, X, es', eg', rfl⟩
    refine ⟨trivial, ?_⟩
    have l4 : G.length ≤ 4 := by omega
    refine k G y7 h' ⟨l4, ?_, hG⟩ eg' X
    rw [eG]
    refine List.Nodup.sublist ?_ nS
    rw [show S.take G.length = (S.take 4).take G.length by rw [List.take_take, Nat.min_eq_left l4]]
    exact List.take_sublist _ _
end Law

/-! k80i: a book: tasks, waits -/
namespace Law
open PySem Z Com
def nmS : List Str := [Str.ofString "abcdefgh", Str.ofString "hcfbgdae", Str.ofString "dahgcfbe"]
def suS : List Str := [Str.ofString "", Str.ofString "x", Str.ofString "yy"]
def letS : List Nat := [97, 98, 99, 100, 101, 102, 103, 104]
theorem nam_ok : ∀ c ∈ letS, ∀ t ∈ suS, OkS ((⟨#[c]⟩ : Str) ++ t) := by unfold OkS; decide +kernel
theorem let_get : ∀ s ∈ nmS, ∀ i ∈ [0, 1, 2, 3, 4, 5, 6, 7], ∃ c ∈ letS, s.cps.toList[i]? = some c := by decide +kernel
theorem nm_len : ∀ s ∈ nmS, s.length = 8 ∧ s.cps.toList.length = 8 := by decide +kernel
theorem su_len : ∀ s ∈ suS, s.length ≤ 2 := by decide +kernel
structure RowOk (G : List (Str × Int)) (p : Str × Tk) : Prop where
  o : OkS p.1
  t : NewT G p.2
def ir_b8a : List Sm := [.set (.nm 11) (.call 1 [(.var 0), (.bin .Add (.bin .Add (.var 1) (.int 1)) (.var 10)), (.var 4), (.var 6)]), .set (.nm 12) (.bin .Add (.idx (.idx (.lst [(.str "abcdefgh"), (.str "hcfbgdae"), (.str "dahgcfbe")]) (.bin .Mod (.bin .FloorDiv (.var 3) (.int 7)) (.int 3))) (.var 10)) (.idx (.lst [(.str ""), (.str "x"), (.str "yy")]) (.bin .Mod (.bin .Add (.bin .FloorDiv (.var 3) (.int 13)) (.var 10)) (.int 3)))), .exp (.mi .append (.var 8) [(.bin .Add (.bin .Add (.xtp [(.var 12)]) (.slc (.var 11) none (some (.int 5)))) (.xtp [(.bi .max2 [(.idx (.var 11) (.int 5)), (.bi .int [(.cmp .Eq (.var 10) (.int 0))])])]))])]
def ir_b8w : List Sm := [.set (.nm 13) (.call 0 [(.var 0), (.bin .Add (.bin .Add (.bin .Add (.var 1) (.int 20)) (.bin .Mult (.int 8) (.var 10))) (.var 7))]), .ife (.cmp .Eq (.bin .Mod (.var 13) (.int 5)) (.int 1)) [.exp (.mi .append (.var 9) [(.xtp [(.var 7), (.var 10), (.bin .Mod (.bin .FloorDiv (.var 13) (.int 5)) (.int 3))])])] []]
/-- one row more -/
theorem b8a_ok {ns : List Int} {k n : Int} {i gr tr : Nat} {M : List Str} {G : List (Str × Int)} {T : List (Str × Tk)} {y2 y5 y7 y9 y11 y12 y13 y14 y15 : Option PV} {R : List Sm} {h0 h : Hep} {D : Dz} (l : ns.length ≤ 63) (k0 : 0 ≤ k) (k1 : k ≤ 10 ^ 8) (n0 : 0 ≤ n) (i5 : i < 5) (hM : ∀ s ∈ M, OkS s) (lM : M.length ≤ 4) (sG : Stock G) (eg : h[gr]? = some (.lst (G.map ndV))) (et : h[tr]? = some (.lst (T.map tkV))) (lT : T.length ≤ 10) (X0 : Ext h0 h) (tl : h0.length ≤ tr)
    (kf : ∀ (p : Str × Tk) y11 y12 h', RowOk G p → (∀ q o, q ≠ tr → h[q]? = some o → h'[q]? = some o) → Ext h0 h' → h'[tr]? = some (.lst ((T ++ [p]).map tkV)) → h.length ≤ h'.length → wSs GBk R [some (.ils (ns.map PV.int)), some (.int k), y2, some (.int n), some (.itp (M.map PV.str)), y5, some (.ref gr), y7, some (.ref tr), y9, some (.int i), y11, y12, y13, y14, y15] h' D) :
    wSs GBk (ir_b8a ++ R) [some (.ils (ns.map PV.int)), some (.int k), y2, some (.int n), some (.itp (M.map PV.str)), y5, some (.ref gr), y7, some (.ref tr), y9, some (.int i), y11, y12, y13, y14, y15] h D := by
  unfold ir_b8a
  rw [List.cons_append, List.cons_append, List.cons_append, List.nil_append]
  refine wSs_step ?_; simp_arith []
  refine ⟨ns, _, M, G, gr, rfl, l, by omega, by omega, hM, lM, sG, eg, fun t h1 nt X1 => ?_⟩
  have et1 := X1 _ _ et
  try simp_arith []
  have d7 : divOk 7 := divOk_of (by decide) (by decide)
  have d13 : divOk 13 := divOk_of (by decide) (by decide)
  have q0 := Int.emod_nonneg (n / 7) (show (3 : Int) ≠ 0 by decide)
  have q1 := Int.emod_lt_of_pos (n / 7) (show (0 : Int) < 3 by decide)
  obtain ⟨a, w, a1, a2, a3⟩ := pick (xs := nmS.map PV.str) (i := n / 7 % 3) q0 (by show n / 7 % 3 < 3; exact q1)
  obtain ⟨s, ms, rfl⟩ := List.mem_map.mp a3
  have p0 := Int.emod_nonneg (n / 13 + i) (show (3 : Int) ≠ 0 by decide)
  have p1 := Int.emod_lt_of_pos (n / 13 + i) (show (0 : Int) < 3 by decide)
  obtain ⟨b, w, b1, b2, b3⟩ := pick (xs := suS.map PV.str) (i := (n / 13 + i) % 3) p0 (by show (n / 13 + i) % 3 < 3; exact p1)
  obtain ⟨u, mu, rfl⟩ := List.mem_map.mp b3
  obtain ⟨c, mc, ec⟩ := let_get s ms i (by simp only [List.mem_cons, List.not_mem_nil, or_false]; omega)
  obtain ⟨ls, ls2⟩ := nm_len s ms
  have lu := su_len u mu
  have a1 : ixN 3 (n / 7 % 3) = some a := a1
  have b1 : ixN 3 ((n / 13 + i) % 3) = some b := b1
  have ix : ixN s.cps.toList.length (i : Int) = some i := ixN_nat (by omega)
  have en : [PV.str (Str.ofString "abcdefgh"), PV.str (Str.ofString "hcfbgdae"), PV.str (Str.ofString "dahgcfbe")] = nmS.map PV.str := rfl
  have es : [PV.str (Str.ofString ""), PV.str (Str.ofString "x"), PV.str (Str.ofString "yy")] = suS.map PV.str := rfl
  refine wSs_step ?_
  simp only [wS, wE, wEs, List.getElem?_cons_zero, List.getElem?_cons_succ, tgt]
  rw [en]
  refine ⟨by show 3 ≤ 16777216; decide, ?_⟩
  simp_arith [d7, new_get]
  have a2' : (nmS[a]?) = some s := by
    rw [List.getElem?_map] at a2
    cases e : nmS[a]? with
    | none => rw [e] at a2; cases a2
    | some z => rw [e] at a2; cases a2; rfl
  have b2' : (suS[b]?) = some u := by
    rw [List.getElem?_map] at b2
    cases e : suS[b]? with
    | none => rw [e] at b2; cases b2
    | some z => rw [e] at b2; cases b2; rfl
  have n3 : nmS.length = 3 := rfl
  have s3 : suS.length = 3 := rfl
  have l8 : s.length ≤ 16777216 := by omega
  refine ⟨a, by rw [n3]; exact a1, .str s, by rw [a2']; rfl, ?_⟩
  simp_arith [d13]
  refine ⟨l8, i, ix, c, ec, b, b1, .str u, by rw [es, List.getElem?_map, b2']; rfl, ?_⟩
  simp_arith []
  refine ⟨by show 1 + u.length ≤ 16777216; omega, ?_⟩
  have X2 : Ext h1 (h1 ++ [Ob.lst (nmS.map PV.str)] ++ [Ob.lst [PV.str (Str.ofString ""), PV.str (Str.ofString "x"), PV.str (Str.ofString "yy")]]) := Ext.app.trans .app
  generalize hq : h1 ++ [Ob.lst (nmS.map PV.str)] ++ [Ob.lst [PV.str (Str.ofString ""), PV.str (Str.ofString "x"), PV.str (Str.ofString "yy")]] = h2 at *
  have et2 := X2 _ _ et1
  have c5 : ∀ a b c d e f : PV, cutL [a, b, c, d, e, f] none (some 5) = [a, b, c, d, e] := fun _ _ _ _ _ _ => rfl
  have i65 : ixN 6 5 = some 5 := rfl
  have lb : T.length < 16777216 := by omega
  unfold tk6
  refine wSs_step ?_; simp_arith [et2, c5, i65, lb]
  have X3 := X1.trans X2
  have hk : ∀ q o, q ≠ tr → h[q]? = some o → (h2.set tr (Ob.lst (T.map tkV ++ [PV.itp [PV.str ((⟨#[c]⟩ : Str) ++ u), PV.int t.l, PV.str t.mc, PV.itp (t.nd.map ndV), PV.int t.fs, dueV t.due, PV.int (max t.wt (if (i : Int) = 0 then 1 else 0))]])))[q]? = some o := fun q o nq e => by
    rw [List.getElem?_set_ne (Ne.symm nq)]; exact X3 _ _ e
  have w1 := nt.f.w1
  have wt := nt.wt
  have mx : 0 ≤ max t.wt (if (i : Int) = 0 then 1 else 0) ∧ max t.wt (if (i : Int) = 0 then 1 else 0) ≤ 2 := by split <;> omega
  refine kf ((⟨#[c]⟩ : Str) ++ u, { t with wt := max t.wt (if (i : Int) = 0 then 1 else 0) }) _ _ _ ⟨nam_ok c mc u mu, ⟨⟨nt.f.l1, nt.f.l2, nt.f.mc, nt.f.nn, nt.f.nl, nt.f.n, nt.f.f1, nt.f.f2, nt.f.d, mx.1, by show max t.wt (if (i : Int) = 0 then 1 else 0) ≤ 10000; omega⟩, nt.n, nt.l, nt.nl, nt.fs, mx.2, nt.du⟩⟩ hk ((X0.trans X3).set' tl) ?_ (by rw [List.length_set]; exact X3.len)
  rw [set_get et2, List.map_append]
  rfl
end Law

/-! k80j: a book, whole -/
namespace Law
open PySem Z Com
theorem rng_succ (a m : Nat) : rngL (a : Int) (m + 1) = PV.int (a : Int) :: rngL ((a + 1 : Nat) : Int) m := by
  unfold rngL
  rw [List.range_succ_eq_map, List.map_cons, List.map_map]
  refine List.cons_eq_cons.mpr ⟨?_, List.map_congr_left fun i _ => ?_⟩
  · show PV.int ((a : Int) + ((0 : Nat) : Int)) = _
    exact congrArg PV.int (by omega)
  · show PV.int ((a : Int) + ((i + 1 : Nat) : Int)) = PV.int (((a + 1 : Nat) : Int) + (i : Int))
    congr 1; omega
theorem ixN_last {n : Nat} (h : 1 ≤ n) : ixN n (-1) = some (n - 1) := by
  unfold Z.ixN L2.ixN
  rw [if_neg (by decide)]
  first
    | (rw [if_pos (by omega)]; congr 1; omega)
    | (simp; omega)
/-- a loop over numbers from a on -/
theorem wFor_num {b : Z.Env → Hep → Dz → Prop} {D : Dz} {t : Tg} (I : Nat → Z.Env → Hep → Prop) : ∀ (m a : Nat) (σ : Z.Env) (h : Hep), I a σ h →
    (∀ i σ h, a ≤ i → i < a + m → I i σ h → ∃ σ', tgt t (.int (i : Int)) σ = some σ' ∧ ∀ K : Z.Env → Hep → Prop, (∀ σ2 h2, I (i + 1) σ2 h2 → K σ2 h2) → b σ' h { D with nx := K, ct := K, bk := D.nx }) →
    (∀ σ h, I (a + m) σ h → D.nx σ h) → wFor [] t b (rngL (a : Int) m) σ h D
  | 0, a, σ, h, i, _, e => ⟨trivial, e σ h i⟩
  | m + 1, a, σ, h, i, s, e => by
    rw [rng_succ]
    obtain ⟨σ', et, k⟩ := s a σ h (Nat.le_refl _) (by omega) i
    refine ⟨trivial, ?_⟩
    rw [et]
    exact k _ fun σ2 h2 i2 => wFor_num I m (a + 1) σ2 h2 i2 (fun i σ h h1 h2 => s i σ h (by omega) (by omega)) fun σ h i => e σ h (by rw [show a + (m + 1) = a + 1 + m by omega]; exact i)
def WOk (w : Wt) : Prop := 0 ≤ w.1 ∧ w.1 ≤ 10 ∧ 0 ≤ w.2.1 ∧ w.2.1 ≤ 10 ∧ 0 ≤ w.2.2 ∧ w.2.2 ≤ 10
theorem b8w_ok {ns : List Int} {k : Int} {i j wr : Nat} {W : List Wt} {y2 y3 y4 y5 y6 y8 y11 y12 y13 y14 y15 : Option PV} {h0 h : Hep} {D : Dz} (l : ns.length ≤ 63) (k0 : 0 ≤ k) (k1 : k ≤ 10 ^ 8) (i5 : i < 5) (j5 : j < 5) (ew : h[wr]? = some (.lst (W.map wtV))) (lW : W.length ≤ 100) (X0 : Ext h0 h) (wl : h0.length ≤ wr)
    (kf : ∀ (A : List Wt) y13 h', A.length ≤ 1 → (∀ w ∈ A, WOk w) → (∀ q o, q ≠ wr → h[q]? = some o → h'[q]? = some o) → Ext h0 h' → h'[wr]? = some (.lst ((W ++ A).map wtV)) → D.nx [some (.ils (ns.map PV.int)), some (.int k), y2, y3, y4, y5, y6, some (.int (j : Int)), y8, some (.ref wr), some (.int (i : Int)), y11, y12, y13, y14, y15] h') :
    wSs GBk ir_b8w [some (.ils (ns.map PV.int)), some (.int k), y2, y3, y4, y5, y6, some (.int (j : Int)), y8, some (.ref wr), some (.int (i : Int)), y11, y12, y13, y14, y15] h D := by
  unfold ir_b8w
  have d5 : divOk 5 := divOk_of (by decide) (by decide)
  have m8 : mulOk 8 (i : Int) := mulOk_l (by decide) (by decide)
  refine wSs_step ?_
  simp only [wS, wE, wEs, List.getElem?_cons_zero, List.getElem?_cons_succ, binW, binI, tgt]
  refine ⟨m8, ?_⟩
  refine numb_M l (by omega) (by omega) fun n n0 n1 => ?_
  try simp_arith []
  have q0 := Int.emod_nonneg (n / 5) (show (3 : Int) ≠ 0 by decide)
  have q1 := Int.emod_lt_of_pos (n / 5) (show (0 : Int) < 3 by decide)
  have lb : W.length < 16777216 := by omega
  by_cases c : n % 5 = 1
  · refine wSs_step ?_; simp_arith [c]
    refine wSs_step ?_; simp_arith [ew, d5, lb]
    refine kf [((j : Int), (i : Int), n / 5 % 3)] _ _ (Nat.le_refl _) (fun w mw => ?_) (fun q o nq e => by rw [List.getElem?_set_ne (Ne.symm nq)]; exact e) (X0.set' wl) ?_
    · rw [List.mem_singleton.mp mw]
      refine ⟨?_, ?_, ?_, ?_, ?_, ?_⟩
      · show (0 : Int) ≤ j; omega
      · show (j : Int) ≤ 10; omega
      · show (0 : Int) ≤ i; omega
      · show (i : Int) ≤ 10; omega
      · exact q0
      · show n / 5 % 3 ≤ 10; omega
    · rw [set_get ew, List.map_append]; rfl
  · refine wSs_step ?_; simp_arith [c]
    exact kf [] _ _ (Nat.zero_le _) (fun w z => nomatch z) (fun q o _ e => e) X0 (by rw [List.append_nil]; exact ew)
def ir_b8 : Sm := .for_ (.nm 10) (.rng1 (.var 2)) (ir_b8a ++ [.for_ (.nm 7) (.rng1 (.var 10)) ir_b8w])
theorem b8_ok {ns : List Int} {k n : Int} {many gr tr wr : Nat} {M : List Str} {G : List (Str × Int)} {y5 y7 y11 y12 y13 y14 y15 : Option PV} {R : List Sm} {h0 h : Hep} {D : Dz} (l : ns.length ≤ 63) (k0 : 0 ≤ k) (k1 : k ≤ 10 ^ 8) (n0 : 0 ≤ n) (m5 : many ≤ 5) (hM : ∀ s ∈ M, OkS s) (lM : M.length ≤ 4) (sG : Stock G) (eg : h[gr]? = some (.lst (G.map ndV))) (et : h[tr]? = some (.lst [])) (ew : h[wr]? = some (.lst [])) (gt : gr ≠ tr) (gw : gr ≠ wr) (tw : tr ≠ wr) (X0 : Ext h0 h) (tl : h0.length ≤ tr) (wl : h0.length ≤ wr)
    (kf : ∀ (T : List (Str × Tk)) (W : List Wt) y7 y10 y11 y12 y13 h', T.length = many → (∀ p ∈ T, RowOk G p) → W.length ≤ 25 → (∀ w ∈ W, WOk w) → Ext h0 h' → h'[gr]? = some (.lst (G.map ndV)) → h'[tr]? = some (.lst (T.map tkV)) → h'[wr]? = some (.lst (W.map wtV)) → wSs GBk R [some (.ils (ns.map PV.int)), some (.int k), some (.int (many : Int)), some (.int n), some (.itp (M.map PV.str)), y5, some (.ref gr), y7, some (.ref tr), some (.ref wr), y10, y11, y12, y13, y14, y15] h' D) :
    wSs GBk (ir_b8 :: R) [some (.ils (ns.map PV.int)), some (.int k), some (.int (many : Int)), some (.int n), some (.itp (M.map PV.str)), y5, some (.ref gr), y7, some (.ref tr), some (.ref wr), none, y11, y12, y13, y14, y15] h D := by
  unfold ir_b8
  refine wSs_step ?_; simp_arith []
  refine ⟨by omega, by omega, ?_⟩
  refine wFor_num (fun i σ h' => ∃ (T : List (Str × Tk)) (W : List Wt) (y7 y10 y11 y12 y13 : Option PV), T.length = i ∧ (∀ p ∈ T, RowOk G p) ∧ W.length ≤ 5 * i ∧ (∀ w ∈ W, WOk w) ∧ Ext h0 h' ∧ h'[gr]? = some (.lst (G.map ndV)) ∧ h'[tr]? = some (.lst (T.map tkV)) ∧ h'[wr]? = some (.lst (W.map wtV)) ∧ σ = [some (.ils (ns.map PV.int)), some (.int k), some (.int (many : Int)), some (.int n), some (.itp (M.map PV.str)), y5, some (.ref gr), y7, some (.ref tr), some (.ref wr), y10, y11, y12, y13, y14, y15]) many 0 _ _ ⟨[], [], _, _, _, _, _, rfl, (fun p z => nomatch z), Nat.zero_le _, (fun p z => nomatch z), X0, eg, et, ew, rfl⟩ ?_ ?_
  · rintro i σ h' _ i2 ⟨T, W, y7, y10, y11, y12, y13, lT, hT, lW, hW, X, eg', et', ew', rfl⟩
    refine ⟨_, rfl, fun K hK => ?_⟩
    show wSs _ _ [some _, some _, some _, some _, some _, y5, some _, y7, some _, some _, some (.int (i : Int)), y11, y12, y13, y14, y15] _ _
    refine b8a_ok l k0 k1 n0 (by omega) hM lM sG eg' et' (by omega) X tl fun p y11 y12 h2 op hk X2 et2 _ => ?_
    refine wSs_step ?_; simp_arith []
    refine ⟨by omega, by omega, ?_⟩
    refine wFor_num (fun j σ h'' => ∃ (W2 : List Wt) (y7 y13 : Option PV), W2.length ≤ W.length + j ∧ (∀ w ∈ W2, WOk w) ∧ Ext h0 h'' ∧ h''[gr]? = some (.lst (G.map ndV)) ∧ h''[tr]? = some (.lst ((T ++ [p]).map tkV)) ∧ h''[wr]? = some (.lst (W2.map wtV)) ∧ σ = [some (.ils (ns.map PV.int)), some (.int k), some (.int (many : Int)), some (.int n), some (.itp (M.map PV.str)), y5, some (.ref gr), y7, some (.ref tr), some (.ref wr), some (.int (i : Int)), y11, y12, y13, y14, y15]) i 0 _ _ ⟨W, _, _, by omega, hW, X2, hk _ _ gt eg', et2, hk _ _ (Ne.symm tw) ew', rfl⟩ ?_ ?_
    · rintro j σ h3 _ j2 ⟨W2, y7, y13, lW2, hW2, X3, eg3, et3, ew3, rfl⟩
      refine ⟨_, rfl, fun K2 hK2 => ?_⟩
      show wSs _ _ [some _, some _, some _, some _, some _, y5, some _, some (.int (j : Int)), some _, some _, some (.int (i : Int)), y11, y12, y13, y14, y15] _ _
      refine b8w_ok l k0 k1 (by omega) (by omega) ew3 (by omega) X3 wl fun A y13 h4 lA hA hk4 X4 ew4 => ?_
      refine hK2 _ _ ⟨W2 ++ A, _, _, by rw [List.length_append]; omega, fun w mw => ?_, X4, hk4 _ _ gw eg3, hk4 _ _ tw et3, ew4, rfl⟩
      rcases List.mem_append.mp mw with mw | mw
      · exact hW2 w mw
      · exact hA w mw
    · rintro σ h3 ⟨W2, y7, y13, lW2, hW2, X3, eg3, et3, ew3, rfl⟩
      refine hK _ _ ⟨T ++ [p], W2, _, _, _, _, _, by rw [List.length_append, lT]; rfl, fun q mq => ?_, by omega, hW2, X3, eg3, et3, ew3, rfl⟩
      rcases List.mem_append.mp mq with mq | mq
      · exact hT q mq
      · rw [List.mem_singleton.mp mq]; exact op
  · rintro σ h' ⟨T, W, y7, y10, y11, y12, y13, lT, hT, lW, hW, X, eg', et', ew', rfl⟩
    exact kf T W _ _ _ _ _ h' (by omega) hT (by omega) hW X eg' et' ew'
end Law

/-! k80k: a book, its end -/
namespace Law
open PySem Z Com
structure Base (B : Bk) : Prop where
  ms : ∀ s ∈ B.MS, OkS s
  ml : B.MS.length ≤ 4
  g : Stock B.G
  n1 : 2 ≤ B.NT.length
  n2 : B.NT.length ≤ 5
  t : ∀ p ∈ B.NT, RowOk B.G p
  wl : B.W.length ≤ 25
  w : ∀ w ∈ B.W, WOk w
  xl : B.FX.length ≤ 1
  x : ∀ p ∈ B.FX, 0 ≤ p.1 ∧ p.1 < B.NT.length ∧ 0 ≤ p.2 ∧ p.2 ≤ 20
theorem Base.form {B : Bk} (b : Base B) : Form B where
  ms := b.ms
  ml := by have := b.ml; omega
  g1 := b.g.nn
  g2 := fun p m => by obtain ⟨o, l, u⟩ := b.g.g p m; exact ⟨o, l, by omega⟩
  gl := by have := b.g.l; omega
  n1 := by have := b.n1; omega
  n2 := by have := b.n2; omega
  t := fun p m => ⟨(b.t p m).o, (b.t p m).t.f⟩
  w := fun w m => by obtain ⟨a1, a2, a3, a4, a5, a6⟩ := b.w w m; exact ⟨a1, by omega, a3, by omega, a5, by omega⟩
  wl := by have := b.wl; omega
  x := fun p m => by obtain ⟨a1, a2, a3, a4⟩ := b.x p m; exact ⟨a1, a2, a3, by omega⟩
  xl := by have := b.xl; omega
def ir_b9 : Sm := .sto (.var 8) (.neg (.int 1)) (.bin .Add (.bin .Add (.slc (.idx (.var 8) (.neg (.int 1))) none (some (.int 5))) (.xtp [(.bin .Add (.int 5) (.bin .Mod (.bin .FloorDiv (.var 3) (.int 40)) (.int 20)))])) (.slc (.idx (.var 8) (.neg (.int 1))) (some (.int 6)) none))
def ir_b10 : List Sm := [.set (.nm 14) (.xtp []),
  .ife (.cmp .Eq (.bin .Mod (.bin .FloorDiv (.var 3) (.int 32000)) (.int 4)) (.int 1)) [.set (.nm 15) (.bin .Mod (.bin .FloorDiv (.var 3) (.int 400)) (.var 2)), .set (.nm 14) (.xtp [(.xtp [(.var 15), (.bin .Add (.idx (.idx (.var 8) (.var 15)) (.int 4)) (.bin .Mod (.bin .FloorDiv (.var 3) (.int 4000)) (.int 5)))])])] [],
  .ret (.xtp [(.var 4), (.bi .xtuple [(.var 6)]), (.bi .xtuple [(.var 8)]), (.bi .xtuple [(.var 9)]), (.var 14)])]
theorem b9_ok {n : Int} {gr tr wr : Nat} {G : List (Str × Int)} {T : List (Str × Tk)} {W : List Wt} {y0 y1 y2 y4 y5 y7 y10 y11 y12 y13 : Option PV} {R : List Sm} {h0 h : Hep} {D : Dz} (n0 : 0 ≤ n) (t1 : 1 ≤ T.length) (t5 : T.length ≤ 5) (hT : ∀ p ∈ T, RowOk G p) (eg : h[gr]? = some (.lst (G.map ndV))) (et : h[tr]? = some (.lst (T.map tkV))) (ew : h[wr]? = some (.lst (W.map wtV))) (gt : gr ≠ tr) (tw : tr ≠ wr) (X0 : Ext h0 h) (tl : h0.length ≤ tr)
    (kf : ∀ (T2 : List (Str × Tk)) h', T2.length = T.length → (∀ p ∈ T2, RowOk G p) → Ext h0 h' → h'[gr]? = some (.lst (G.map ndV)) → h'[tr]? = some (.lst (T2.map tkV)) → h'[wr]? = some (.lst (W.map wtV)) → wSs GBk R [y0, y1, y2, some (.int n), y4, y5, some (.ref gr), y7, some (.ref tr), some (.ref wr), y10, y11, y12, y13, none, none] h' D) :
    wSs GBk (ir_b9 :: R) [y0, y1, y2, some (.int n), y4, y5, some (.ref gr), y7, some (.ref tr), some (.ref wr), y10, y11, y12, y13, none, none] h D := by
  unfold ir_b9
  have d40 : divOk 40 := divOk_of (by decide) (by decide)
  have q0 := Int.emod_nonneg (n / 40) (show (20 : Int) ≠ 0 by decide)
  have q1 := Int.emod_lt_of_pos (n / 40) (show (0 : Int) < 20 by decide)
  have ij := ixN_last t1
  have jl : T.length - 1 < T.length := by omega
  have gj : T[T.length - 1]? = some T[T.length - 1] := List.getElem?_eq_getElem jl
  have pm : T[T.length - 1] ∈ T := List.getElem_mem jl
  generalize T[T.length - 1] = p at gj pm
  have fp : tkV p = .itp [.str p.1, .int p.2.l, .str p.2.mc, .itp (p.2.nd.map ndV), .int p.2.fs, dueV p.2.due, .int p.2.wt] := rfl
  have c5 : ∀ a b c d e f g : PV, cutL [a, b, c, d, e, f, g] none (some 5) = [a, b, c, d, e] := fun _ _ _ _ _ _ _ => rfl
  have c6 : ∀ a b c d e f g : PV, cutL [a, b, c, d, e, f, g] (some 6) none = [g] := fun _ _ _ _ _ _ _ => rfl
  refine wSs_step ?_; simp_arith [et, ij, gj, fp, d40, c5, c6]
  have r := hT p pm
  have X := X0.set' (r := tr) (o := Ob.lst ((T.set (T.length - 1) (p.1, { p.2 with due := some (5 + n / 40 % 20) })).map tkV)) tl
  refine kf (T.set (T.length - 1) (p.1, { p.2 with due := some (5 + n / 40 % 20) })) _ (by rw [List.length_set]) (fun q mq => ?_) (by rw [List.map_set] at X; exact X) ?_ ?_ ?_
  · rcases List.mem_or_eq_of_mem_set mq with mq | rfl
    · exact hT q mq
    · exact ⟨r.o, ⟨⟨r.t.f.l1, r.t.f.l2, r.t.f.mc, r.t.f.nn, r.t.f.nl, r.t.f.n, r.t.f.f1, r.t.f.f2, fun d e => by cases e; omega, r.t.f.w1, r.t.f.w2⟩, r.t.n, r.t.l, r.t.nl, r.t.fs, r.t.wt, fun d e => by cases e; omega⟩⟩
  · rw [List.getElem?_set_ne (Ne.symm gt)]; exact eg
  · rw [set_get et, List.map_set]; rfl
  · rw [List.getElem?_set_ne tw]; exact ew
theorem b10_ok {n : Int} {many gr tr wr : Nat} {M : List Str} {G : List (Str × Int)} {T : List (Str × Tk)} {W : List Wt} {y0 y1 y5 y7 y10 y11 y12 y13 : Option PV} {h0 h : Hep} {D : Dz} (n0 : 0 ≤ n) (m2 : 2 ≤ many) (m5 : many ≤ 5) (hM : ∀ s ∈ M, OkS s) (lM : M.length ≤ 4) (sG : Stock G) (lT : T.length = many) (hT : ∀ p ∈ T, RowOk G p) (lW : W.length ≤ 25) (hW : ∀ w ∈ W, WOk w) (eg : h[gr]? = some (.lst (G.map ndV))) (et : h[tr]? = some (.lst (T.map tkV))) (ew : h[wr]? = some (.lst (W.map wtV))) (X : Ext h0 h)
    (kf : ∀ (B : Bk) h', Base B → Ext h0 h' → D.rt (bkV B) h') :
    wSs GBk ir_b10 [y0, y1, some (.int (many : Int)), some (.int n), some (.itp (M.map PV.str)), y5, some (.ref gr), y7, some (.ref tr), some (.ref wr), y10, y11, y12, y13, none, none] h D := by
  unfold ir_b10
  have d32 : divOk 32000 := divOk_of (by decide) (by decide)
  have d40 : divOk 4000 := divOk_of (by decide) (by decide)
  have d4 : divOk 400 := divOk_of (by decide) (by decide)
  have dm : divOk (many : Int) := divOk_of (by omega) (by omega)
  have mp : (0 : Int) < many := by omega
  have q0 := Int.emod_nonneg (n / 400) (show (many : Int) ≠ 0 by omega)
  have q1 := Int.emod_lt_of_pos (n / 400) mp
  have p0 := Int.emod_nonneg (n / 4000) (show (5 : Int) ≠ 0 by decide)
  have p1 := Int.emod_lt_of_pos (n / 4000) (show (0 : Int) < 5 by decide)
  refine wSs_step ?_; simp_arith []
  by_cases c : n / 32000 % 4 = 1
  · have jl : (n / 400 % (many : Int)).toNat < T.length := by omega
    have ij : ixN T.length (n / 400 % (many : Int)) = some (n / 400 % (many : Int)).toNat := ixN_int q0 (by omega)
    have gj : T[(n / 400 % (many : Int)).toNat]? = some T[(n / 400 % (many : Int)).toNat] := List.getElem?_eq_getElem jl
    have pm : T[(n / 400 % (many : Int)).toNat] ∈ T := List.getElem_mem jl
    generalize T[(n / 400 % (many : Int)).toNat] = p at gj pm
    have fp : tkV p = .itp [.str p.1, .int p.2.l, .str p.2.mc, .itp (p.2.nd.map ndV), .int p.2.fs, dueV p.2.due, .int p.2.wt] := rfl
    have i74 : ixN 7 4 = some 4 := rfl
    have r := hT p pm
    have r1 := r.t.fs
    have r2 := r.t.f.f1
    refine wSs_step ?_; simp_arith [d32, c]
    refine ⟨d4, mp, ?_⟩
    refine wSs_step ?_; simp_arith [et, ij, gj, fp, i74, d40]
    refine wSs_step ?_; simp_arith [eg, et, ew]
    refine kf ⟨M, G, T, W, [(n / 400 % (many : Int), p.2.fs + n / 4000 % 5)]⟩ _ ⟨hM, lM, sG, by show 2 ≤ T.length; omega, by show T.length ≤ 5; omega, hT, lW, hW, Nat.le_refl _, fun q mq => ?_⟩ X
    rw [List.mem_singleton.mp mq]
    exact ⟨q0, by show n / 400 % (many : Int) < (T.length : Int); omega, by show 0 ≤ p.2.fs + n / 4000 % 5; omega, by show p.2.fs + n / 4000 % 5 ≤ 20; omega⟩
  · refine wSs_step ?_; simp_arith [d32, c]
    refine wSs_step ?_; simp_arith [eg, et, ew]
    exact kf ⟨M, G, T, W, []⟩ _ ⟨hM, lM, sG, by show 2 ≤ T.length; omega, by show T.length ≤ 5; omega, hT, lW, hW, Nat.zero_le _, fun q mq => nomatch mq⟩ X
def sp__law_book : Z.Spec := fun args h F _ => ∃ (ns : List Int) (k : Int) (many : Nat), args = [.ils (ns.map PV.int), .int k, .int (many : Int)] ∧ ns.length ≤ 63 ∧ 0 ≤ k ∧ k ≤ 10 ^ 8 ∧ 2 ≤ many ∧ many ≤ 5 ∧ ∀ (B : Bk) h', Base B → Ext h h' → F (bkV B) h'
theorem mt__law_book : Meets GBk 16 3 ir__law_book sp__law_book := by
  rintro args h F E ⟨ns, k, many, rfl, l, k0, k1, m2, m5, kf⟩
  refine ⟨rfl, ?_⟩
  rw [show ir__law_book = .set (.nm 3) (.call 0 [(.var 0), (.var 1)]) :: ir_b2 :: ir_b3 :: .set (.nm 6) (.lst []) :: ir_b5 :: .set (.nm 8) (.lst []) :: .set (.nm 9) (.lst []) :: ir_b8 :: ir_b9 :: ir_b10 from rfl]
  show wSs _ _ [some _, some _, some _, none, none, none, none, none, none, none, none, none, none, none, none, none] h _
  refine wSs_step ?_; simp_arith []
  refine numb_M l k0 (by omega) fun n n0 n1 => ?_
  try simp_arith []
  refine b2_ok n0 fun M h1 hM lM X1 => ?_
  refine b3_ok n0 fun S sr h2 hS lS nS sl es X2 => ?_
  refine wSs_step ?_; simp_arith []
  refine b5_ok (h0 := h2) n0 hS lS nS (app_get es) new_get .app (Nat.le_refl _) fun G y7 h3 sG eg X3 => ?_
  have gl := (List.getElem?_eq_some_iff.mp eg).1
  refine wSs_step ?_; simp_arith []
  refine wSs_step ?_; simp_arith []
  refine b8_ok (h0 := h3) l k0 k1 n0 m5 hM lM sG (app_get (app_get eg)) (app_get new_get) (by first | exact new_get | (rw [List.append_assoc]; exact new_get)) (by omega) (by simp; omega) (by simp) (Ext.app.trans .app) (Nat.le_refl _) (by simp) fun T W y7 y10 y11 y12 y13 h4 lT hT lW hW X4 eg4 et4 ew4 => ?_
  refine b9_ok (h0 := h3) n0 (by omega) (by omega) hT eg4 et4 ew4 (by omega) (by simp) X4 (Nat.le_refl _) fun T2 h5 lT2 hT2 X5 eg5 et5 ew5 => ?_
  exact b10_ok (h0 := h) n0 m2 m5 hM lM sG (by omega) hT2 lW hW eg5 et5 ew5 (X1.trans (X2.trans (X3.trans X5))) kf
end Law

/-! k80l: a row made harder -/
namespace Law
open PySem Z Com
abbrev GN : List Z.Spec := [sp__law_number]
structure HRow (G : List (Str × Int)) (p q : Str × Tk) : Prop where
  o : q.1 = p.1
  h : HardR p.2 q.2
  f : FormT q.2
  n : NdIn q.2.nd G
  fs : q.2.fs ≤ 11
  du : ∀ d, q.2.due = some d → d ≤ 30
def sp__law_harder_row : Z.Spec := fun args h F _ => ∃ (ns : List Int) (k : Int) (p : Str × Tk) (b : Bool) (r : Nat) (G : List (Str × Int)), args = [.ils (ns.map PV.int), .int k, tkV p, .bl b, .ref r] ∧ ns.length ≤ 63 ∧ 0 ≤ k ∧ k ≤ 10 ^ 9 ∧ Stock G ∧ RowOk G p ∧ h[r]? = some (.dic (sD G)) ∧ ∀ q h', HRow G p q → Ext h h' → F (tkV q) h'
theorem pick2 {m x : Int} : ∃ (j : Nat) (e : Int), ixN 2 (x % 2) = some j ∧ [PV.int 0, PV.int m][j]? = some (.int e) ∧ (e = 0 ∨ e = m) := by
  have q0 := Int.emod_nonneg x (show (2 : Int) ≠ 0 by decide)
  have q1 := Int.emod_lt_of_pos x (show (0 : Int) < 2 by decide)
  obtain ⟨j, w, j1, j2, j3⟩ := pick (xs := [PV.int 0, .int m]) (i := x % 2) q0 (by show x % 2 < 2; exact q1)
  simp only [List.mem_cons, List.not_mem_nil, or_false] at j3
  rcases j3 with rfl | rfl
  · exact ⟨j, 0, j1, j2, .inl rfl⟩
  · exact ⟨j, m, j1, j2, .inr rfl⟩
def up (G : List (Str × Int)) (n : Int) (x : Str × Int) : Str × Int := (x.1, min (getN G x.1 0) (x.2 + n % 2))
theorem in_look {G : List (Str × Int)} {g : Str} {c : Int} (sG : Stock G) (m : (g, c) ∈ G) : G.lookup g = some c ∧ getN G g 0 = c := by
  have e := look_in sG.nn m
  exact ⟨e, by unfold getN; rw [e]; rfl⟩
def ir_hr1 : Sm := .for_ (.tp [(.nm 14), (.nm 15)]) (.wlk (.var 9)) [.exp (.mi .append (.var 13) [(.xtp [(.var 14), (.bi .min2 [(.idx (.var 4) (.var 14)), (.bin .Add (.var 15) (.bin .Mod (.var 5) (.int 2)))])])])]
theorem hr1_ok {n : Int} {r fr : Nat} {G nd : List (Str × Int)} {y0 y1 y2 y3 y6 y7 y8 y10 y11 y12 : Option PV} {R : List Sm} {h0 h : Hep} {D : Dz} (sG : Stock G) (nG : NdIn nd G) (ln : nd.length ≤ 4) (er : h[r]? = some (.dic (sD G))) (ef : h[fr]? = some (.lst [])) (X0 : Ext h0 h) (fl : h0.length ≤ fr)
    (k : ∀ y14 y15 h', Ext h0 h' → h'[r]? = some (.dic (sD G)) → h'[fr]? = some (.lst ((nd.map (up G n)).map ndV)) → wSs GN R [y0, y1, y2, y3, some (.ref r), some (.int n), y6, y7, y8, some (.itp (nd.map ndV)), y10, y11, y12, some (.ref fr), y14, y15] h' D) :
    wSs GN (ir_hr1 :: R) [y0, y1, y2, y3, some (.ref r), some (.int n), y6, y7, y8, some (.itp (nd.map ndV)), y10, y11, y12, some (.ref fr), none, none] h D := by
  unfold ir_hr1
  have nrf : r ≠ fr := fun z => by rw [z, ef] at er; cases er
  refine wSs_step ?_; simp_arith []
  refine wFor_ind (fun rest σ h' => ∃ (A B : List (Str × Int)) (y14 y15 : Option PV), nd = A ++ B ∧ rest = B.map ndV ∧ Ext h0 h' ∧ h'[r]? = some (.dic (sD G)) ∧ h'[fr]? = some (.lst ((A.map (up G n)).map ndV)) ∧ σ = [y0, y1, y2, y3, some (.ref r), some (.int n), y6, y7, y8, some (.itp (nd.map ndV)), y10, y11, y12, some (.ref fr), y14, y15]) _ _ _ ⟨[], nd, _, _, rfl, rfl, X0, er, ef, rfl⟩ ?_ ?_
  · rintro x rest σ h' ⟨A, B, y14, y15, eA, eB, X, er', ef', rfl⟩
    obtain ⟨p, B, rfl, rfl, rfl⟩ : ∃ g B', B = g :: B' ∧ x = ndV g ∧ rest = B'.map ndV := by
      cases B with
      | nil => cases eB
      | cons i ks' => cases eB; exact ⟨i, ks', rfl, rfl, rfl⟩
    have lA := congrArg List.length eA
    rw [List.length_append, List.length_cons] at lA
    refine ⟨trivial, _, rfl, fun K hK => ?_⟩
    show wSs _ _ [y0, y1, y2, y3, some (.ref r), some (.int n), y6, y7, y8, some (.itp (nd.map ndV)), y10, y11, y12, some (.ref fr), some (.str p.1), some (.int p.2)] _ _
    obtain ⟨c, mc, hc⟩ := nG p (by rw [eA]; simp)
    obtain ⟨lk, gN⟩ := in_look sG mc
    have kg : keyOf (.str p.1) = some (.one (.inr p.1)) := rfl
    have lb : A.length < 16777216 := by omega
    have dg : dget (.one (.inr p.1)) (sD G) = some (.int c) := by rw [sD_get, lk]; rfl
    refine wSs_step ?_; simp_arith [ef', er', kg, sD_kind, dg, lb]
    refine hK _ _ ⟨A ++ [p], B, _, _, by rw [eA, List.append_assoc]; rfl, rfl, X.set' fl, by rw [List.getElem?_set_ne (Ne.symm nrf)]; exact er', ?_, rfl⟩
    rw [set_get ef', List.map_append, List.map_append]
    show _ = some (Ob.lst (_ ++ [PV.itp [.str p.1, .int (min (getN G p.1 0) (p.2 + n % 2))]]))
    rw [gN]
  · rintro σ h' ⟨A, B, y14, y15, eA, eB, X, er', ef', rfl⟩
    have : B = [] := by cases B with | nil => rfl | cons _ _ => cases eB
    subst this
    rw [List.append_nil] at eA
    refine ⟨trivial, k _ _ h' X er' ?_⟩
    rw [eA]; exact ef'
def co_hr2 : Ex := .and (.cmp .NotIn (.var 14) (.bi .dict [(.var 9)])) (.cmp .Eq (.bin .Mod (.bin .FloorDiv (.var 5) (.int 2)) (.int 5)) (.int 1))
def ir_hr2 : Sm := .lcs 4 (.for_ (.nm 14) (.wld 4) [.ife co_hr2 [.exp (.mi .append (.var 13) [(.xtp [(.var 14), (.int 1)])])] []])
theorem hr2_ok {n : Int} {r fr : Nat} {G nd L : List (Str × Int)} {y0 y1 y2 y3 y6 y7 y8 y10 y11 y12 y14 y15 : Option PV} {R : List Sm} {h0 h : Hep} {D : Dz} (sG : Stock G) (nn : (nd.map (·.1)).Nodup) (ln : L.length ≤ 100) (e0 : h0[r]? = some (.dic (sD G))) (er : h[r]? = some (.dic (sD G))) (ef : h[fr]? = some (.lst (L.map ndV))) (X0 : Ext h0 h) (fl : h0.length ≤ fr)
    (k : ∀ E y14 h', (E.map (·.1)).Sublist (G.map (·.1)) → (∀ x ∈ E, x.1 ∉ nd.map (·.1) ∧ x.2 = 1) → Ext h0 h' → h'[fr]? = some (.lst ((L ++ E).map ndV)) → wSs GN R [y0, y1, y2, y3, some (.ref r), some (.int n), y6, y7, y8, some (.itp (nd.map ndV)), y10, y11, y12, some (.ref fr), y14, y15] h' D) :
    wSs GN (ir_hr2 :: R) [y0, y1, y2, y3, some (.ref r), some (.int n), y6, y7, y8, some (.itp (nd.map ndV)), y10, y11, y12, some (.ref fr), y14, y15] h D := by
  unfold ir_hr2
  have nrf : r ≠ fr := fun z => by rw [z, ef] at er; cases er
  have rl := (List.getElem?_eq_some_iff.mp er).1
  have d2 : divOk 2 := divOk_of (by decide) (by decide)
  refine wSs_step ?_
  simp_arith [er]
  intro u
  have eu : (h.set r (.ldc u (sD G)))[r]? = some (.ldc u (sD G)) := set_get er
  have lG := sG.l
  simp_arith [eu]
  have ek : (sD G).map (fun p => keyV p.1) = G.map fun p => PV.str p.1 := by unfold sD; rw [List.map_map]; rfl
  rw [ek]
  refine wFor_ind (fun rest σ h' => ∃ (A B E : List (Str × Int)) (y14 : Option PV), G = A ++ B ∧ rest = B.map (fun p => PV.str p.1) ∧ (E.map (·.1)).Sublist (A.map (·.1)) ∧ (∀ x ∈ E, x.1 ∉ nd.map (·.1) ∧ x.2 = 1) ∧ (∀ q o, q ≠ r → h0[q]? = some o → h'[q]? = some o) ∧ h'[r]? = some (.ldc u (sD G)) ∧ h'[fr]? = some (.lst ((L ++ E).map ndV)) ∧ σ = [y0, y1, y2, y3, some (.ref r), some (.int n), y6, y7, y8, some (.itp (nd.map ndV)), y10, y11, y12, some (.ref fr), y14, y15]) _ _ _ ⟨[], G, [], _, rfl, rfl, List.nil_sublist _, (fun x z => nomatch z), fun q o nq e => by rw [List.getElem?_set_ne (Ne.symm nq)]; exact X0 _ _ e, eu, by rw [List.append_nil, List.getElem?_set_ne nrf]; exact ef, rfl⟩ ?_ ?_
  · rintro x rest σ h' ⟨A, B, E, y14, eA, eB, sub, hE, Xk, er', ef', rfl⟩
    obtain ⟨p, B, rfl, rfl, rfl⟩ : ∃ g B', B = g :: B' ∧ x = PV.str g.1 ∧ rest = B'.map (fun p => PV.str p.1) := by
      cases B with
      | nil => cases eB
      | cons i ks' => cases eB; exact ⟨i, ks', rfl, rfl, rfl⟩
    have lA := congrArg List.length eA
    rw [List.length_append, List.length_cons] at lA
    have lE : E.length ≤ A.length := by have := sub.length_le; rw [List.length_map, List.length_map] at this; exact this
    refine ⟨⟨er', trivial⟩, _, rfl, fun K hK => ?_⟩
    show wSs _ _ [y0, y1, y2, y3, some (.ref r), some (.int n), y6, y7, y8, some (.itp (nd.map ndV)), y10, y11, y12, some (.ref fr), some (.str p.1), y15] _ _
    have kg : keyOf (.str p.1) = some (.one (.inr p.1)) := rfl
    have lb : (L ++ E).length < 16777216 := by rw [List.length_append]; omega
    have e2 : G = (A ++ [p]) ++ B := by rw [eA, List.append_assoc]; rfl
    have nx : ∀ h2 y14, Ext h' h2 → K [y0, y1, y2, y3, some (.ref r), some (.int n), y6, y7, y8, some (.itp (nd.map ndV)), y10, y11, y12, some (.ref fr), y14, y15] h2 := fun h2 y14 X2 =>
      hK _ _ ⟨A ++ [p], B, E, _, e2, rfl, by rw [List.map_append]; exact sub.trans (List.sublist_append_left _ _), hE, fun q o nq e => X2 _ _ (Xk q o nq e), X2 _ _ er', X2 _ _ ef', rfl⟩
    refine wSs_step ?_
    simp_arith [co_hr2]
    refine ⟨_, pairs_nd _, ?_⟩
    rw [sD_is nn]
    simp_arith [new_get, kg, sD_kind, sD_get]
    have X1 : Ext h' (h' ++ [Ob.dic (sD nd)]) := .app
    cases lk : nd.lookup p.1 with
    | some c =>
      simp_arith []
      exact nx _ _ X1
    | none =>
      simp_arith []
      by_cases c : n / 2 % 5 = 1
      · simp_arith [d2, c]
        have ef1 := X1 _ _ ef'
        generalize hq : h' ++ [Ob.dic (sD nd)] = h1 at *
        refine wSs_step ?_; simp_arith [ef1, lb]
        have hn : p.1 ∉ nd.map (·.1) := fun z => by
          obtain ⟨x, mx, ex⟩ := List.mem_map.mp z
          have := look_in nn (i := p.1) (v := x.2) (by rw [← ex]; exact mx)
          rw [lk] at this; cases this
        refine hK _ _ ⟨A ++ [p], B, E ++ [(p.1, 1)], _, e2, rfl, ?_, fun x mx => ?_, fun q o nq e => ?_, ?_, ?_, rfl⟩
        · rw [List.map_append, List.map_append]
          exact sub.append (List.Sublist.refl _)
        · rcases List.mem_append.mp mx with mx | mx
          · exact hE x mx
          · rw [List.mem_singleton.mp mx]; exact ⟨hn, rfl⟩
        · have ql := (List.getElem?_eq_some_iff.mp e).1
          rw [List.getElem?_set_ne (by omega)]
          exact X1 _ _ (Xk q o nq e)
        · rw [List.getElem?_set_ne (Ne.symm nrf)]
          exact X1 _ _ er'
        · rw [set_get ef1, ← List.append_assoc, List.map_append (l₁ := L ++ E)]; rfl
      · simp_arith [d2, c]
        exact nx _ _ X1
  · rintro σ h' ⟨A, B, E, y14, eA, eB, sub, hE, Xk, er', ef', rfl⟩
    have : B = [] := by cases B with | nil => rfl | cons _ _ => cases eB
    subst this
    rw [List.append_nil] at eA
    refine ⟨⟨er', trivial⟩, er', ?_⟩
    refine k E y14 _ (by rw [eA]; exact sub) hE (fun q o e => ?_) ?_
    · by_cases nq : q = r
      · subst nq
        rw [e0] at e; cases e
        exact set_get er'
      · rw [List.getElem?_set_ne (Ne.symm nq)]; exact Xk q o nq e
    · rw [List.getElem?_set_ne nrf]; exact ef'
end Law

/-! k80m: a row made harder, its end -/
namespace Law
open PySem Z Com
def ir_hr3 : List Sm := [.set (.nm 7) (.bi .min2 [(.int 1000), (.bin .Add (.var 7) (.idx (.lst [(.int 0), (.bin .Mod (.bin .FloorDiv (.var 5) (.int 10)) (.int 4))]) (.bin .Mod (.bin .FloorDiv (.var 5) (.int 40)) (.int 2))))]),
  .ife (.not (.var 3)) [.set (.nm 10) (.bin .Add (.var 10) (.idx (.lst [(.int 0), (.bin .Mod (.bin .FloorDiv (.var 5) (.int 80)) (.int 6))]) (.bin .Mod (.bin .FloorDiv (.var 5) (.int 480)) (.int 2))))] [],
  .ife (.cmp .Is (.var 11) .non) [.set (.nm 11) (.idx (.lst [.non, .non, (.bin .Mod (.bin .FloorDiv (.var 5) (.int 1000)) (.int 30))]) (.bin .Mod (.bin .FloorDiv (.var 5) (.int 30000)) (.int 3)))] [.set (.nm 11) (.bi .max2 [(.int 0), (.bin .Sub (.var 11) (.idx (.lst [(.int 0), (.bin .Mod (.bin .FloorDiv (.var 5) (.int 1000)) (.int 5))]) (.bin .Mod (.bin .FloorDiv (.var 5) (.int 5000)) (.int 2))))])],
  .ret (.xtp [(.var 6), (.var 7), (.var 8), (.bi .xtuple [(.var 13)]), (.var 10), (.var 11), (.bi .max2 [(.var 12), (.bin .Mod (.bin .FloorDiv (.var 5) (.int 60000)) (.int 2))])])]
theorem hr3_ok {n l fs wt : Int} {b : Bool} {s m : Str} {due : Option Int} {fr : Nat} {N : List (Str × Int)} {y0 y1 y2 y4 y9 y14 y15 : Option PV} {h : Hep} {D : Dz} (n0 : 0 ≤ n) (l1 : 1 ≤ l) (l6 : l ≤ 6) (hd : ∀ d, due = some d → 0 ≤ d ∧ d ≤ 30) (ef : h[fr]? = some (.lst (N.map ndV)))
    (k : ∀ (l' fs' wt' : Int) (due' : Option Int) h', l ≤ l' → l' ≤ 1000 → fs ≤ fs' → fs' ≤ fs + 5 → wt ≤ wt' → (wt' ≤ wt ∨ wt' ≤ 1) → (∀ d, due = some d → ∃ e, due' = some e ∧ e ≤ d) → (∀ e, due' = some e → 0 ≤ e ∧ e ≤ 30) → Ext h h' → D.rt (tkV (s, ⟨l', m, N, fs', due', wt'⟩)) h') :
    wSs GN ir_hr3 [y0, y1, y2, some (.bl b), y4, some (.int n), some (.str s), some (.int l), some (.str m), y9, some (.int fs), some (dueV due), some (.int wt), some (.ref fr), y14, y15] h D := by
  unfold ir_hr3
  have d10 : divOk 10 := divOk_of (by decide) (by decide)
  have d40 : divOk 40 := divOk_of (by decide) (by decide)
  have d80 : divOk 80 := divOk_of (by decide) (by decide)
  have d48 : divOk 480 := divOk_of (by decide) (by decide)
  have d1k : divOk 1000 := divOk_of (by decide) (by decide)
  have d30 : divOk 30000 := divOk_of (by decide) (by decide)
  have d5k : divOk 5000 := divOk_of (by decide) (by decide)
  have d60 : divOk 60000 := divOk_of (by decide) (by decide)
  obtain ⟨j1, e1, i1, g1, r1⟩ := pick2 (m := n / 10 % 4) (x := n / 40)
  obtain ⟨j2, e2, i2, g2, r2⟩ := pick2 (m := n / 80 % 6) (x := n / 480)
  obtain ⟨j3, e3, i3, g3, r3⟩ := pick2 (m := n / 1000 % 5) (x := n / 5000)
  have s1 : 0 ≤ e1 := by rcases r1 with rfl | rfl <;> omega
  have s2 : 0 ≤ e2 ∧ e2 ≤ 5 := by rcases r2 with rfl | rfl <;> omega
  have s3 : 0 ≤ e3 := by rcases r3 with rfl | rfl <;> omega
  have w0 : n / 60000 % 2 ≤ 1 := by omega
  -- the last line
  have fin : ∀ (l' fs' : Int) (due' : Option Int) h', l ≤ l' → l' ≤ 1000 → fs ≤ fs' → fs' ≤ fs + 5 → (∀ d, due = some d → ∃ e, due' = some e ∧ e ≤ d) → (∀ e, due' = some e → 0 ≤ e ∧ e ≤ 30) → Ext h h' → wSs GN [.ret (.xtp [(.var 6), (.var 7), (.var 8), (.bi .xtuple [(.var 13)]), (.var 10), (.var 11), (.bi .max2 [(.var 12), (.bin .Mod (.bin .FloorDiv (.var 5) (.int 60000)) (.int 2))])])] [y0, y1, y2, some (.bl b), y4, some (.int n), some (.str s), some (.int l'), some (.str m), y9, some (.int fs'), some (dueV due'), some (.int wt), some (.ref fr), y14, y15] h' D := by
    intro l' fs' due' h' a1 a2 a3 a4 a5 a6 X
    have ef' := X _ _ ef
    refine wSs_step ?_; simp_arith [ef', d60]
    exact k l' fs' (max wt (n / 60000 % 2)) due' h' a1 a2 a3 a4 (by omega) (by omega) a5 a6 X
  have mid : ∀ (l' fs' : Int) h', l ≤ l' → l' ≤ 1000 → fs ≤ fs' → fs' ≤ fs + 5 → Ext h h' → wSs GN [.ife (.cmp .Is (.var 11) .non) [.set (.nm 11) (.idx (.lst [.non, .non, (.bin .Mod (.bin .FloorDiv (.var 5) (.int 1000)) (.int 30))]) (.bin .Mod (.bin .FloorDiv (.var 5) (.int 30000)) (.int 3)))] [.set (.nm 11) (.bi .max2 [(.int 0), (.bin .Sub (.var 11) (.idx (.lst [(.int 0), (.bin .Mod (.bin .FloorDiv (.var 5) (.int 1000)) (.int 5))]) (.bin .Mod (.bin .FloorDiv (.var 5) (.int 5000)) (.int 2))))])], .ret (.xtp [(.var 6), (.var 7), (.var 8), (.bi .xtuple [(.var 13)]), (.var 10), (.var 11), (.bi .max2 [(.var 12), (.bin .Mod (.bin .FloorDiv (.var 5) (.int 60000)) (.int 2))])])] [y0, y1, y2, some (.bl b), y4, some (.int n), some (.str s), some (.int l'), some (.str m), y9, some (.int fs'), some (dueV due), some (.int wt), some (.ref fr), y14, y15] h' D := by
    intro l' fs' h' a1 a2 a3 a4 X
    cases due with
    | none =>
      obtain ⟨a, w, b1, b2, b3⟩ := pick (xs := [PV.non, .non, .int (n / 1000 % 30)]) (i := n / 30000 % 3) (Int.emod_nonneg _ (by decide)) (by show n / 30000 % 3 < 3; omega)
      obtain ⟨due', rfl, hd'⟩ : ∃ d : Option Int, w = dueV d ∧ ∀ e, d = some e → 0 ≤ e ∧ e ≤ 30 := by
        simp only [List.mem_cons, List.not_mem_nil, or_false] at b3
        rcases b3 with rfl | rfl | rfl
        · exact ⟨none, rfl, fun e z => nomatch z⟩
        · exact ⟨none, rfl, fun e z => nomatch z⟩
        · exact ⟨some _, rfl, fun e z => by cases z; omega⟩
      have b1 : ixN 3 (n / 30000 % 3) = some a := b1
      have nn : dueV none = .non := rfl
      rw [nn]
      refine wSs_step ?_; simp_arith []
      refine wSs_step ?_; simp_arith [d1k, d30, new_get, b1, b2]
      exact fin l' fs' due' _ a1 a2 a3 a4 (fun d z => nomatch z) hd' (X.trans .app)
    | some d =>
      obtain ⟨u0, u1⟩ := hd d rfl
      have nn : dueV (some d) = .int d := rfl
      rw [nn]
      refine wSs_step ?_; simp_arith []
      refine wSs_step ?_; simp_arith [d1k, d5k, new_get, i3, g3]
      exact fin l' fs' (some (max 0 (d - e3))) _ a1 a2 a3 a4 (fun d' z => by cases z; exact ⟨_, rfl, by omega⟩) (fun e z => by cases z; omega) (X.trans .app)
  refine wSs_step ?_; simp_arith [d10, d40, new_get, i1, g1]
  have X1 : Ext h (h ++ [Ob.lst [PV.int 0, .int (n / 10 % 4)]]) := .app
  generalize hq : h ++ [Ob.lst [PV.int 0, .int (n / 10 % 4)]] = h1 at *
  cases b with
  | true =>
    refine wSs_step ?_; simp_arith []
    exact mid _ fs h1 (by omega) (by omega) (by omega) (by omega) X1
  | false =>
    refine wSs_step ?_; simp_arith []
    refine wSs_step ?_; simp_arith [d80, d48, new_get, i2, g2]
    exact mid _ (fs + e2) _ (by omega) (by omega) (by omega) (by omega) (X1.trans .app)
theorem mt__law_harder_row : Meets GN 16 5 ir__law_harder_row sp__law_harder_row := by
  rintro args h F E ⟨ns, k, p, b, r, G, rfl, l, k0, k1, sG, rp, er, kf⟩
  refine ⟨rfl, ?_⟩
  rw [show ir__law_harder_row = .set (.nm 5) (.call 0 [(.var 0), (.var 1)]) :: .set (.tp [(.nm 6), (.nm 7), (.nm 8), (.nm 9), (.nm 10), (.nm 11), (.nm 12)]) (.var 2) :: .set (.nm 13) (.lst []) :: ir_hr1 :: ir_hr2 :: ir_hr3 from rfl]
  show wSs _ _ [some _, some _, some _, some _, some _, none, none, none, none, none, none, none, none, none, none, none] h _
  refine wSs_step ?_; simp_arith []
  refine numb_M l k0 k1 fun n n0 n1 => ?_
  try simp_arith []
  have fp : tkV p = .itp [.str p.1, .int p.2.l, .str p.2.mc, .itp (p.2.nd.map ndV), .int p.2.fs, dueV p.2.due, .int p.2.wt] := rfl
  rw [fp]
  refine wSs_step ?_; simp_arith []
  refine wSs_step ?_; simp_arith []
  have nl := rp.t.nl
  have wt1 := rp.t.wt
  have wt0 := rp.t.f.w1
  have f0 := rp.t.f.f1
  have f6 := rp.t.fs
  refine hr1_ok (h0 := h) sG rp.t.n rp.t.nl (app_get er) new_get .app (Nat.le_refl _) fun y14 y15 h1 X1 er1 ef1 => ?_
  refine hr2_ok (h0 := h) sG rp.t.f.nn (by rw [List.length_map]; omega) er er1 ef1 X1 (Nat.le_refl _) fun A y14 h2 sub hA X2 ef2 => ?_
  have lA : A.length ≤ 4 := by have := sub.length_le; have := sG.l; simp only [List.length_map] at *; omega
  refine hr3_ok n0 rp.t.f.l1 rp.t.l (fun d e => ⟨(rp.t.f.d d e).1, rp.t.du d e⟩) ef2 fun l' fs' wt' due' h3 a1 a2 a3 a4 a5 a6 a7 a8 X3 => ?_
  have upm : ∀ x ∈ p.2.nd, ∃ c, (x.1, c) ∈ G ∧ x.2 ≤ (up G n x).2 ∧ (up G n x).2 ≤ c := fun x mx => by
    obtain ⟨c, mc, hc⟩ := rp.t.n x mx
    obtain ⟨_, gN⟩ := in_look sG mc
    refine ⟨c, mc, ?_, ?_⟩
    · show x.2 ≤ min (getN G x.1 0) (x.2 + n % 2)
      rw [gN]; omega
    · show min (getN G x.1 0) (x.2 + n % 2) ≤ c
      rw [gN]; omega
  have f1 : (p.2.nd.map (up G n)).map (·.1) = p.2.nd.map (·.1) := by rw [List.map_map]; rfl
  have inG : ∀ x ∈ p.2.nd.map (up G n) ++ A, ∃ c, (x.1, c) ∈ G ∧ x.2 ≤ c ∧ 1 ≤ x.2 ∧ OkS x.1 := fun x mx => by
    rcases List.mem_append.mp mx with mx | mx
    · obtain ⟨y, my, rfl⟩ := List.mem_map.mp mx
      obtain ⟨c, mc, u1, u2⟩ := upm y my
      have := (rp.t.f.n y my).2.1
      exact ⟨c, mc, u2, by omega, (sG.g _ mc).1⟩
    · have := (hA x mx).2
      obtain ⟨y, my, ey⟩ := List.mem_map.mp (sub.subset (List.mem_map.mpr ⟨x, mx, rfl⟩))
      obtain ⟨o, c1, _⟩ := sG.g y my
      refine ⟨y.2, by rw [← ey]; exact my, by omega, by omega, by rw [← ey]; exact o⟩
  have hr : HRow G p (p.1, ⟨l', p.2.mc, p.2.nd.map (up G n) ++ A, fs', due', wt'⟩) := by
    refine ⟨rfl, ⟨a1, rfl, a3, a7, fun w => ?_, fun x mx => ?_⟩, ⟨?_, a2, rp.t.f.mc, ?_, ?_, fun x mx => ?_, ?_, ?_, fun d e => ?_, ?_, ?_⟩, fun x mx => ?_, ?_, fun d e => (a8 d e).2⟩
    · show wt' ≠ 0; omega
    · obtain ⟨c, mc, u1, u2⟩ := upm x mx
      exact ⟨_, List.mem_append_left _ (List.mem_map.mpr ⟨x, mx, rfl⟩), u1⟩
    · show 1 ≤ l'; have := rp.t.f.l1; omega
    · show ((p.2.nd.map (up G n) ++ A).map (·.1)).Nodup
      rw [List.map_append, f1]
      refine List.nodup_append.mpr ⟨rp.t.f.nn, sub.nodup sG.nn, fun a ma b mb e => ?_⟩
      obtain ⟨x, mx, rfl⟩ := List.mem_map.mp mb
      exact (hA x mx).1 (e ▸ ma)
    · show (p.2.nd.map (up G n) ++ A).length ≤ 8
      rw [List.length_append, List.length_map]; omega
    · obtain ⟨c, mc, u1, u2, o⟩ := inG x mx
      have := (sG.g _ mc).2.2
      exact ⟨o, u2, by have : c ≤ 50 := this; omega⟩
    · show 0 ≤ fs'; omega
    · show fs' ≤ 10000; omega
    · have := a8 d e; omega
    · show 0 ≤ wt'; omega
    · show wt' ≤ 10000; omega
    · obtain ⟨c, mc, u1, u2, o⟩ := inG x mx
      exact ⟨c, mc, u1⟩
    · show fs' ≤ 11; omega
  exact kf _ h3 hr (X2.trans X3)
end Law

/-! k80n: a book made harder: rows, goods -/
namespace Law
open PySem Z Com
abbrev GH : List Z.Spec := [sp__law_number, sp__law_harder_row]
def ir_hA : Sm := .for_ (.tp [(.nm 9), (.nm 13)]) (.enum (.var 5)) [.exp (.mi .append (.var 12) [(.call 1 [(.var 0), (.bin .Add (.bin .Add (.var 1) (.int 1)) (.var 9)), (.var 13), (.cmp .In (.var 9) (.var 8)), (.bi .dict [(.var 4)])])])]
theorem hA_ok {ns : List Int} {k : Int} {hr rr : Nat} {G : List (Str × Int)} {NT : List (Str × Tk)} {I : List Int} {y2 y3 y6 y7 y10 y11 y14 y15 y16 y17 y18 y19 y20 y21 y22 y23 y24 y25 y26 y27 : Option PV} {R : List Sm} {h0 h : Hep} {D : Dz} (l : ns.length ≤ 63) (k0 : 0 ≤ k) (k1 : k ≤ 10 ^ 8) (sG : Stock G) (hT : ∀ p ∈ NT, RowOk G p) (lT : NT.length ≤ 5) (eh : h0[hr]? = some (.lst (I.map PV.int))) (er : h[rr]? = some (.lst [])) (X0 : Ext h0 h) (rl : h0.length ≤ rr)
    (kf : ∀ (Q : List (Str × Tk)) y9 y13 h', Q.length = NT.length → (∀ x ∈ NT.zip Q, HRow G x.1 x.2) → Ext h0 h' → h'[rr]? = some (.lst (Q.map tkV)) → wSs GH R [some (.ils (ns.map PV.int)), some (.int k), y2, y3, some (.itp (G.map ndV)), some (.itp (NT.map tkV)), y6, y7, some (.ref hr), y9, y10, y11, some (.ref rr), y13, y14, y15, y16, y17, y18, y19, y20, y21, y22, y23, y24, y25, y26, y27] h' D) :
    wSs GH (ir_hA :: R) [some (.ils (ns.map PV.int)), some (.int k), y2, y3, some (.itp (G.map ndV)), some (.itp (NT.map tkV)), y6, y7, some (.ref hr), none, y10, y11, some (.ref rr), none, y14, y15, y16, y17, y18, y19, y20, y21, y22, y23, y24, y25, y26, y27] h D := by
  unfold ir_hA
  refine wSs_step ?_
  simp_arith []
  rw [enum_z]
  refine wFor_ind (fun rest σ h' => ∃ (A B : List ((Str × Tk) × Nat)) (Q : List (Str × Tk)) (y9 y13 : Option PV), NT.zipIdx 0 = A ++ B ∧ rest = B.map (fun p => PV.tup [.int p.2, tkV p.1]) ∧ Q.length = A.length ∧ (∀ x ∈ (A.map (·.1)).zip Q, HRow G x.1 x.2) ∧ Ext h0 h' ∧ h'[rr]? = some (.lst (Q.map tkV)) ∧ σ = [some (.ils (ns.map PV.int)), some (.int k), y2, y3, some (.itp (G.map ndV)), some (.itp (NT.map tkV)), y6, y7, some (.ref hr), y9, y10, y11, some (.ref rr), y13, y14, y15, y16, y17, y18, y19, y20, y21, y22, y23, y24, y25, y26, y27]) _ _ _ ⟨[], NT.zipIdx 0, [], _, _, rfl, rfl, rfl, (fun x z => nomatch z), X0, er, rfl⟩ ?_ ?_
  · rintro x rest σ h' ⟨A, B, Q, y9, y13, eA, eB, lQ, hQ, X, er', rfl⟩
    obtain ⟨p, B, rfl, rfl, rfl⟩ : ∃ g B', B = g :: B' ∧ x = PV.tup [.int g.2, tkV g.1] ∧ rest = B'.map (fun p => PV.tup [.int p.2, tkV p.1]) := by
      cases B with
      | nil => cases eB
      | cons i ks' => cases eB; exact ⟨i, ks', rfl, rfl, rfl⟩
    have pm : p ∈ NT.zipIdx 0 := by rw [eA]; simp
    have lk : NT[p.2]? = some p.1 := List.mem_zipIdx_iff_getElem?.mp pm
    have pn : p.1 ∈ NT := List.mem_of_getElem? lk
    obtain ⟨pl, _⟩ := List.getElem?_eq_some_iff.mp lk
    have lA := congrArg List.length eA
    rw [List.length_zipIdx, List.length_append, List.length_cons] at lA
    refine ⟨trivial, _, rfl, fun K hK => ?_⟩
    show wSs _ _ [some (.ils (ns.map PV.int)), some (.int k), y2, y3, some (.itp (G.map ndV)), some (.itp (NT.map tkV)), y6, y7, some (.ref hr), some (.int (p.2 : Int)), y10, y11, some (.ref rr), some (tkV p.1), y14, y15, y16, y17, y18, y19, y20, y21, y22, y23, y24, y25, y26, y27] _ _
    refine wSs_step ?_
    simp_arith [er', X _ _ eh]
    refine inL_ints ?_
    try simp_arith []
    refine ⟨_, pairs_nd _, ?_⟩
    rw [sD_is sG.nn]
    have X1 : Ext h' (h' ++ [Ob.dic (sD G)]) := .app
    refine ⟨ns, _, p.1, _, _, G, rfl, l, by omega, by omega, sG, hT _ pn, new_get, fun q h2 hq X2 => ?_⟩
    have er2 := X2 _ _ (X1 _ _ er')
    have lb : Q.length < 16777216 := by omega
    simp_arith [er2, lb]
    refine hK _ _ ⟨A ++ [p], B, Q ++ [q], _, _, by rw [eA, List.append_assoc]; rfl, rfl, by rw [List.length_append, List.length_append, lQ]; rfl, fun x mx => ?_, ((X.trans X1).trans X2).set' rl, ?_, rfl⟩
    · rw [List.map_append, List.zip_append (by rw [List.length_map]; exact lQ.symm)] at mx
      rcases List.mem_append.mp mx with mx | mx
      · exact hQ x mx
      · rw [List.mem_singleton.mp mx]; exact hq
    · rw [set_get er2, List.map_append]; rfl
  · rintro σ h' ⟨A, B, Q, y9, y13, eA, eB, lQ, hQ, X, er', rfl⟩
    have : B = [] := by cases B with | nil => rfl | cons _ _ => cases eB
    subst this
    rw [List.append_nil] at eA
    have e1 : A.map (·.1) = NT := by rw [← eA, zip_fst]
    have l1 := congrArg List.length e1
    rw [List.length_map] at l1
    rw [e1] at hQ
    exact ⟨trivial, kf Q _ _ h' (by omega) hQ X er'⟩
/-- how much of a good is left -/
def wan (Q : List (Str × Tk)) (g : Str) : Int := maxL (1 :: Q.map fun q => getN q.2.nd g 0)
def sk (Q : List (Str × Tk)) (n : Int) (p : Str × Int) : Str × Int := (p.1, max (wan Q p.1) (p.2 - n % 3))
theorem wan_le {Q : List (Str × Tk)} {G : List (Str × Int)} {p : Str × Int} (sG : Stock G) (hQ : ∀ q ∈ Q, NdIn q.2.nd G) (m : p ∈ G) : 1 ≤ wan Q p.1 ∧ wan Q p.1 ≤ p.2 := by
  have mm := Z.maxL_mem (1 :: Q.map fun q => getN q.2.nd p.1 0) (by simp)
  refine ⟨mm.2 1 List.mem_cons_self, ?_⟩
  have p1 := (sG.g p m).2.1
  rcases List.mem_cons.mp mm.1 with e | e
  · unfold wan; rw [e]; exact p1
  · obtain ⟨q, mq, eq⟩ := List.mem_map.mp e
    unfold wan
    rw [← eq]
    unfold getN
    cases lk : q.2.nd.lookup p.1 with
    | none => show (0 : Int) ≤ _; omega
    | some c =>
      obtain ⟨c', mc, hc⟩ := hQ q mq _ (look_mem lk)
      have e1 := look_in sG.nn mc
      have e2 := look_in sG.nn (i := p.1) (v := p.2) m
      rw [e1] at e2
      cases e2
      exact hc
def ex_hB : Ex := .dg2 (.bi .dict [(.idx (.var 13) (.int 3))]) (.var 15) (.int 0)
def ir_hB : Sm := .for_ (.tp [(.nm 15), (.nm 16)]) (.wlk (.var 4)) [.set (.nm 17) (.bi .maxl [(.bin .Add (.lst [(.int 1)]) (.comp [13] (.nm 13) (.wlk (.var 12)) none ex_hB))]), .exp (.mi .append (.var 14) [(.xtp [(.var 15), (.bi .max2 [(.var 17), (.bin .Sub (.var 16) (.bin .Mod (.var 11) (.int 3)))])])])]
theorem hB_ok {n : Int} {rr sr : Nat} {G : List (Str × Int)} {Q : List (Str × Tk)} {y0 y1 y2 y3 y5 y6 y7 y8 y9 y10 y13 y18 y19 y20 y21 y22 y23 y24 y25 y26 y27 : Option PV} {R : List Sm} {h0 h : Hep} {D : Dz} (lG : G.length ≤ 4) (lQ : Q.length ≤ 5) (nQ : ∀ q ∈ Q, (q.2.nd.map (·.1)).Nodup) (er : h0[rr]? = some (.lst (Q.map tkV))) (es : h[sr]? = some (.lst [])) (X0 : Ext h0 h) (sl : h0.length ≤ sr)
    (kf : ∀ y15 y16 y17 h', Ext h0 h' → h'[sr]? = some (.lst ((G.map (sk Q n)).map ndV)) → wSs GH R [y0, y1, y2, y3, some (.itp (G.map ndV)), y5, y6, y7, y8, y9, y10, some (.int n), some (.ref rr), y13, some (.ref sr), y15, y16, y17, y18, y19, y20, y21, y22, y23, y24, y25, y26, y27] h' D) :
    wSs GH (ir_hB :: R) [y0, y1, y2, y3, some (.itp (G.map ndV)), y5, y6, y7, y8, y9, y10, some (.int n), some (.ref rr), y13, some (.ref sr), none, none, none, y18, y19, y20, y21, y22, y23, y24, y25, y26, y27] h D := by
  unfold ir_hB
  refine wSs_step ?_; simp_arith []
  refine wFor_ind (fun rest σ h' => ∃ (A B : List (Str × Int)) (y15 y16 y17 : Option PV), G = A ++ B ∧ rest = B.map ndV ∧ Ext h0 h' ∧ h'[sr]? = some (.lst ((A.map (sk Q n)).map ndV)) ∧ σ = [y0, y1, y2, y3, some (.itp (G.map ndV)), y5, y6, y7, y8, y9, y10, some (.int n), some (.ref rr), y13, some (.ref sr), y15, y16, y17, y18, y19, y20, y21, y22, y23, y24, y25, y26, y27]) _ _ _ ⟨[], G, _, _, _, rfl, rfl, X0, es, rfl⟩ ?_ ?_
  · rintro x rest σ h' ⟨A, B, y15, y16, y17, eA, eB, X, es', rfl⟩
    obtain ⟨p, B, rfl, rfl, rfl⟩ : ∃ g B', B = g :: B' ∧ x = ndV g ∧ rest = B'.map ndV := by
      cases B with
      | nil => cases eB
      | cons i ks' => cases eB; exact ⟨i, ks', rfl, rfl, rfl⟩
    have lA := congrArg List.length eA
    rw [List.length_append, List.length_cons] at lA
    refine ⟨trivial, _, rfl, fun K hK => ?_⟩
    show wSs _ _ [y0, y1, y2, y3, some (.itp (G.map ndV)), y5, y6, y7, y8, y9, y10, some (.int n), some (.ref rr), y13, some (.ref sr), some (.str p.1), some (.int p.2), y17, y18, y19, y20, y21, y22, y23, y24, y25, y26, y27] _ _
    have X1 : Ext h' (h' ++ [Ob.lst [PV.int 1]]) := .app
    have e1 := new_get (h := h') (o := Ob.lst [PV.int 1])
    have er1 := X1 _ _ (X _ _ er)
    refine wSs_step ?_
    simp_arith [er1]
    generalize hq : h' ++ [Ob.lst [PV.int 1]] = h1 at *
    generalize hl : h'.length = a at *
    try simp_arith [er1]
    refine wComp_mp tkV (fun q => .int (getN q.2.nd p.1 0)) Q (fun h2 X2 => ⟨X2 _ _ er1, trivial⟩) (fun q mq h2 X2 => ?_) (by show _ ≤ 16777216; omega) fun h2 X2 => ?_
    · refine ⟨_, rfl, fun F hF => ?_⟩
      have i73 : ixN 7 3 = some 3 := rfl
      have kg : keyOf (.str p.1) = some (.one (.inr p.1)) := rfl
      have fp : tkV q = .itp [.str q.1, .int q.2.l, .str q.2.mc, .itp (q.2.nd.map ndV), .int q.2.fs, dueV q.2.due, .int q.2.wt] := rfl
      rw [fp]
      simp_arith [ex_hB, i73]
      refine ⟨_, pairs_nd _, ?_⟩
      rw [sD_is (nQ q mq)]
      simp_arith [new_get, kg, sD_kind]
      rw [sD_getD]
      exact hF _ (X2.trans .app)
    · have e1' := X2 _ _ e1
      simp_arith [app_get e1', new_get]
      have ei : PV.int 1 :: Q.map (fun q => PV.int (getN q.2.nd p.1 0)) = (1 :: Q.map fun q => getN q.2.nd p.1 0).map PV.int := by rw [List.map_cons, List.map_map]; rfl
      rw [ei]
      refine ⟨by omega, _, Z.intsOf_map _, by simp, ?_⟩
      generalize hq2 : h2 ++ [Ob.lst (Q.map fun q => PV.int (getN q.2.nd p.1 0))] ++ [Ob.lst ((1 :: Q.map fun q => getN q.2.nd p.1 0).map PV.int)] = h3 at *
      have X3 : Ext h2 h3 := by rw [← hq2]; exact Ext.app.trans .app
      have X4 := (X1.trans X2).trans X3
      have es3 := X4 _ _ es'
      have lb : A.length < 16777216 := by omega
      try simp_arith []
      refine wSs_step ?_; simp_arith [es3, lb]
      refine hK _ _ ⟨A ++ [p], B, _, _, _, by rw [eA, List.append_assoc]; rfl, rfl, (X.trans X4).set' sl, ?_, rfl⟩
      rw [set_get es3, List.map_append, List.map_append]
      rfl
  · rintro σ h' ⟨A, B, y15, y16, y17, eA, eB, X, es', rfl⟩
    have : B = [] := by cases B with | nil => rfl | cons _ _ => cases eB
    subst this
    rw [List.append_nil] at eA
    refine ⟨trivial, kf _ _ _ h' X ?_⟩
    rw [eA]; exact es'
end Law

/-! k80o: a book made harder: new tasks, waits -/
namespace Law
open PySem Z Com
def abcS : Str := Str.ofString "abcdefghijklmnopqrstuvwxyz"
def abcL : List Nat := [97, 98, 99, 100, 101, 102, 103, 104]
theorem abc_get : ∀ i ∈ [0, 1, 2, 3, 4, 5, 6, 7], ∃ c ∈ abcL, abcS.cps.toList[i]? = some c := by decide +kernel
theorem abc_len : abcS.length = 26 ∧ abcS.cps.toList.length = 26 := by decide +kernel
theorem new_len : (Str.ofString "new").length = 3 := by decide +kernel
theorem new_ok : ∀ c ∈ abcL, OkS (Str.ofString "new" ++ (⟨#[c]⟩ : Str)) := by unfold OkS; decide +kernel
/-- a task made anew -/
structure NewR (p : Str × Tk) : Prop where
  o : OkS p.1
  f : FormT p.2
  fs : p.2.fs ≤ 11
def ir_hCb : List Sm := [.set (.nm 19) (.call 0 [(.var 0), (.bin .Add (.bin .Add (.var 1) (.int 10)) (.var 18))]), .set (.nm 20) (.idx (.bin .Add (.var 3) (.xtp [(.str "")])) (.bin .Mod (.bin .FloorDiv (.var 19) (.int 5)) (.bin .Add (.bi .len [(.var 3)]) (.int 1)))), .set (.nm 21) (.bin .Add (.str "new") (.idx (.str "abcdefghijklmnopqrstuvwxyz") (.bi .len [(.var 12)]))), .exp (.mi .append (.var 12) [(.xtp [(.var 21), (.bin .Add (.int 1) (.bin .Mod (.var 19) (.int 5))), (.var 20), (.xtp []), (.bin .Mod (.bin .FloorDiv (.var 19) (.int 20)) (.int 9)), .non, (.int 1)])])]
def ir_hC : Sm := .for_ (.nm 18) (.rng1 (.bin .Mod (.bin .FloorDiv (.var 11) (.int 3)) (.int 3))) ir_hCb
theorem hC_ok {ns : List Int} {k n : Int} {rr : Nat} {MS : List Str} {Q : List (Str × Tk)} {y2 y4 y5 y6 y7 y8 y9 y10 y13 y14 y15 y16 y17 y22 y23 y24 y25 y26 y27 : Option PV} {R : List Sm} {h0 h : Hep} {D : Dz} (l : ns.length ≤ 63) (k0 : 0 ≤ k) (k1 : k ≤ 10 ^ 8) (n0 : 0 ≤ n) (hM : ∀ s ∈ MS, OkS s) (lM : MS.length ≤ 4) (lQ : Q.length ≤ 5) (er : h[rr]? = some (.lst (Q.map tkV))) (X0 : Ext h0 h) (rl : h0.length ≤ rr)
    (kf : ∀ (N : List (Str × Tk)) y18 y19 y20 y21 h', N.length ≤ 2 → (∀ p ∈ N, NewR p) → (∀ q o, q ≠ rr → h[q]? = some o → h'[q]? = some o) → Ext h0 h' → h'[rr]? = some (.lst ((Q ++ N).map tkV)) → wSs GH R [some (.ils (ns.map PV.int)), some (.int k), y2, some (.itp (MS.map PV.str)), y4, y5, y6, y7, y8, y9, y10, some (.int n), some (.ref rr), y13, y14, y15, y16, y17, y18, y19, y20, y21, y22, y23, y24, y25, y26, y27] h' D) :
    wSs GH (ir_hC :: R) [some (.ils (ns.map PV.int)), some (.int k), y2, some (.itp (MS.map PV.str)), y4, y5, y6, y7, y8, y9, y10, some (.int n), some (.ref rr), y13, y14, y15, y16, y17, none, none, none, none, y22, y23, y24, y25, y26, y27] h D := by
  unfold ir_hC
  have d3 : divOk 3 := divOk_of (by decide) (by decide)
  have q0 := Int.emod_nonneg (n / 3) (show (3 : Int) ≠ 0 by decide)
  have q1 := Int.emod_lt_of_pos (n / 3) (show (0 : Int) < 3 by decide)
  refine wSs_step ?_; simp_arith [d3]
  refine ⟨by omega, by omega, ?_⟩
  refine wFor_num (fun i σ h' => ∃ (N : List (Str × Tk)) (y18 y19 y20 y21 : Option PV), N.length = i ∧ (∀ p ∈ N, NewR p) ∧ (∀ q o, q ≠ rr → h[q]? = some o → h'[q]? = some o) ∧ Ext h0 h' ∧ h'[rr]? = some (.lst ((Q ++ N).map tkV)) ∧ σ = [some (.ils (ns.map PV.int)), some (.int k), y2, some (.itp (MS.map PV.str)), y4, y5, y6, y7, y8, y9, y10, some (.int n), some (.ref rr), y13, y14, y15, y16, y17, y18, y19, y20, y21, y22, y23, y24, y25, y26, y27]) (n / 3 % 3).toNat 0 _ _ ⟨[], _, _, _, _, rfl, (fun p z => nomatch z), fun q o _ e => e, X0, by rw [List.append_nil]; exact er, rfl⟩ ?_ ?_
  · rintro i σ h' _ i2 ⟨N, y18, y19, y20, y21, lN, hN, hk, X, er', rfl⟩
    refine ⟨_, rfl, fun K hK => ?_⟩
    show wSs _ _ [some (.ils (ns.map PV.int)), some (.int k), y2, some (.itp (MS.map PV.str)), y4, y5, y6, y7, y8, y9, y10, some (.int n), some (.ref rr), y13, y14, y15, y16, y17, some (.int (i : Int)), y19, y20, y21, y22, y23, y24, y25, y26, y27] _ _
    unfold ir_hCb
    refine wSs_step ?_; simp_arith []
    refine numb_M l (by omega) (by omega) fun m m0 m1 => ?_
    try simp_arith []
    have d5 : divOk 5 := divOk_of (by decide) (by decide)
    have d20 : divOk 20 := divOk_of (by decide) (by decide)
    have mp : (0 : Int) < (MS.length : Int) + 1 := by omega
    have dm : divOk ((MS.length : Int) + 1) := divOk_of mp (by omega)
    have a0 := Int.emod_nonneg (m / 5) (show (MS.length : Int) + 1 ≠ 0 by omega)
    have a1 := Int.emod_lt_of_pos (m / 5) mp
    have em : MS.map PV.str ++ [PV.str (Str.ofString "")] = (MS ++ [Str.ofString ""]).map PV.str := by rw [List.map_append]; rfl
    obtain ⟨j, w, j1, j2, j3⟩ := pick (xs := (MS ++ [Str.ofString ""]).map PV.str) (i := m / 5 % ((MS.length : Int) + 1)) a0 (by rw [List.length_map, List.length_append]; show _ < ((MS.length + 1 : Nat) : Int); omega)
    obtain ⟨s, ms, rfl⟩ := List.mem_map.mp j3
    have os : OkS s := by
      rcases List.mem_append.mp ms with ms | ms
      · exact hM s ms
      · rw [List.mem_singleton.mp ms]; exact ok_empty
    refine wSs_step ?_
    simp only [wS, wE, wEs, List.getElem?_cons_zero, List.getElem?_cons_succ, tgt, binW]
    rw [em]
    have lx : ((MS ++ [Str.ofString ""]).map PV.str).length = MS.length + 1 := by rw [List.length_map, List.length_append]; rfl
    simp_arith [d5, dm, mp]
    rw [List.length_map, List.length_append] at j1
    have j1 : ixN (MS.length + 1) (m / 5 % ((MS.length : Int) + 1)) = some j := j1
    have j2' : (MS ++ [Str.ofString ""])[j]? = some s := by
      rw [List.getElem?_map] at j2
      cases e : (MS ++ [Str.ofString ""])[j]? with
      | none => rw [e] at j2; cases j2
      | some z => rw [e] at j2; cases j2; rfl
    refine ⟨by omega, j, by rw [List.length_append]; exact j1, .str s, by rw [j2']; rfl, ?_⟩
    have lr : (Q ++ N).length = Q.length + N.length := List.length_append
    obtain ⟨c, mc, ec⟩ := abc_get (Q.length + N.length) (by simp only [List.mem_cons, List.not_mem_nil, or_false]; omega)
    obtain ⟨la, la2⟩ := abc_len
    refine wSs_step ?_
    simp_arith [er']
    have la : (Str.ofString "abcdefghijklmnopqrstuvwxyz").length = 26 := la
    have la2 : (Str.ofString "abcdefghijklmnopqrstuvwxyz").cps.toList.length = 26 := la2
    refine ⟨by omega, Q.length + N.length, by rw [lr]; exact ixN_nat (by omega), c, ec, by rw [new_len]; show 3 + 1 ≤ 16777216; decide, ?_⟩
    have lb : (Q ++ N).length < 16777216 := by omega
    refine wSs_step ?_; simp_arith [er', d20, lb]
    refine hK _ _ ⟨N ++ [(Str.ofString "new" ++ (⟨#[c]⟩ : Str), ⟨1 + m % 5, s, [], m / 20 % 9, none, 1⟩)], _, _, _, _, by rw [List.length_append, lN]; rfl, fun p mp => ?_, fun q o nq e => ?_, X.set' rl, ?_, rfl⟩
    · rcases List.mem_append.mp mp with mp | mp
      · exact hN p mp
      · rw [List.mem_singleton.mp mp]
        exact ⟨new_ok c mc, ⟨by show 1 ≤ 1 + m % 5; omega, by show 1 + m % 5 ≤ 1000; omega, os, List.nodup_nil, Nat.zero_le _, (fun p z => nomatch z), by show 0 ≤ m / 20 % 9; omega, by show m / 20 % 9 ≤ 10000; omega, (fun d z => nomatch z), show (0 : Int) ≤ 1 by decide, show (1 : Int) ≤ 10000 by decide⟩, by show m / 20 % 9 ≤ 11; omega⟩
    · rw [List.getElem?_set_ne (Ne.symm nq)]; exact hk q o nq e
    · rw [set_get er', ← List.append_assoc, List.map_append (l₁ := Q ++ N)]; rfl
  · rintro σ h' ⟨N, y18, y19, y20, y21, lN, hN, hk, X, er', rfl⟩
    exact kf N _ _ _ _ h' (by omega) hN hk X er'
def wu (n : Int) (w : Wt) : Wt := (w.1, w.2.1, w.2.2 + if (w.1 + w.2.1) % 2 = 0 then 0 else n / 9 % 3)
def ex_hD : Ex := (.xtp [(.var 23), (.var 24), (.bin .Add (.var 25) (.idx (.lst [(.int 0), (.bin .Mod (.bin .FloorDiv (.var 11) (.int 9)) (.int 3))]) (.bin .Mod (.bin .Add (.var 23) (.var 24)) (.int 2))))])
def ir_hD : Sm := .set (.nm 22) (.comp [23, 24, 25] (.tp [(.nm 23), (.nm 24), (.nm 25)]) (.wlk (.var 6)) none ex_hD)
theorem hD_ok {n : Int} {W : List Wt} {y0 y1 y2 y3 y4 y5 y7 y8 y9 y10 y12 y13 y14 y15 y16 y17 y18 y19 y20 y21 y26 y27 : Option PV} {R : List Sm} {h : Hep} {D : Dz} (lW : W.length ≤ 100)
    (kf : ∀ wr h', h.length ≤ wr → Ext h h' → h'[wr]? = some (.lst ((W.map (wu n)).map wtV)) → wSs GH R [y0, y1, y2, y3, y4, y5, some (.itp (W.map wtV)), y7, y8, y9, y10, some (.int n), y12, y13, y14, y15, y16, y17, y18, y19, y20, y21, some (.ref wr), none, none, none, y26, y27] h' D) :
    wSs GH (ir_hD :: R) [y0, y1, y2, y3, y4, y5, some (.itp (W.map wtV)), y7, y8, y9, y10, some (.int n), y12, y13, y14, y15, y16, y17, y18, y19, y20, y21, none, none, none, none, y26, y27] h D := by
  unfold ir_hD
  have d9 : divOk 9 := divOk_of (by decide) (by decide)
  refine wSs_step ?_
  simp_arith []
  refine wComp_mp wtV (fun w => wtV (wu n w)) W (fun h2 X2 => trivial) (fun w mw h2 X2 => ?_) (by show _ ≤ 16777216; omega) fun h2 X2 => ?_
  · refine ⟨_, rfl, fun F hF => ?_⟩
    have X3 : Ext h2 (h2 ++ [Ob.lst [PV.int 0, .int (n / 9 % 3)]]) := .app
    have hF' := hF _ (X2.trans X3)
    have i0 : ixN 2 0 = some 0 := rfl
    have i1 : ixN 2 1 = some 1 := rfl
    by_cases c : (w.1 + w.2.1) % 2 = 0
    · have e : wu n w = (w.1, w.2.1, w.2.2 + 0) := by unfold wu; rw [if_pos c]
      rw [e] at hF'
      simp_arith [ex_hD, d9, new_get, c, i0]
      simpa [wtV] using hF'
    · have e : wu n w = (w.1, w.2.1, w.2.2 + n / 9 % 3) := by unfold wu; rw [if_neg c]
      have c1 : (w.1 + w.2.1) % 2 = 1 := by omega
      rw [e] at hF'
      simp_arith [ex_hD, d9, new_get, c1, i1]
      exact hF'
  · try simp_arith []
    have := kf h2.length (h2 ++ [Ob.lst (W.map fun w => wtV (wu n w))]) X2.len (X2.trans .app) (by rw [List.map_map]; exact new_get)
    exact this
def ir_hEb : List Sm := [.set (.nm 19) (.call 0 [(.var 0), (.bin .Add (.bin .Add (.var 1) (.int 14)) (.var 18))]), .set (.nm 23) (.bin .Mod (.var 19) (.bin .Sub (.bi .len [(.var 12)]) (.int 1))), .exp (.mi .append (.var 22) [(.xtp [(.var 23), (.bin .Add (.bin .Add (.var 23) (.int 1)) (.bin .Mod (.bin .FloorDiv (.var 19) (.int 10)) (.bin .Sub (.bin .Sub (.bi .len [(.var 12)]) (.int 1)) (.var 23)))), (.bin .Mod (.bin .FloorDiv (.var 19) (.int 100)) (.int 4))])])]
def ir_hE : Sm := .for_ (.nm 18) (.rng1 (.bin .Mod (.bin .FloorDiv (.var 11) (.int 30)) (.int 3))) ir_hEb
def WOk2 (w : Wt) : Prop := 0 ≤ w.1 ∧ w.1 ≤ 20 ∧ 0 ≤ w.2.1 ∧ w.2.1 ≤ 20 ∧ 0 ≤ w.2.2 ∧ w.2.2 ≤ 20
theorem hE_ok {ns : List Int} {k n : Int} {rr wr : Nat} {T : List (Str × Tk)} {W : List Wt} {y2 y3 y4 y5 y6 y7 y8 y9 y10 y13 y14 y15 y16 y17 y18 y19 y20 y21 y26 y27 : Option PV} {R : List Sm} {h0 h : Hep} {D : Dz} (l : ns.length ≤ 63) (k0 : 0 ≤ k) (k1 : k ≤ 10 ^ 8) (n0 : 0 ≤ n) (T2 : 2 ≤ T.length) (T9 : T.length ≤ 9) (lW : W.length ≤ 100) (er : h0[rr]? = some (.lst (T.map tkV))) (ew : h[wr]? = some (.lst (W.map wtV))) (X0 : Ext h0 h) (wl : h0.length ≤ wr)
    (kf : ∀ (V : List Wt) y18 y19 y23 h', V.length ≤ 2 → (∀ w ∈ V, WOk2 w) → Ext h0 h' → h'[wr]? = some (.lst ((W ++ V).map wtV)) → wSs GH R [some (.ils (ns.map PV.int)), some (.int k), y2, y3, y4, y5, y6, y7, y8, y9, y10, some (.int n), some (.ref rr), y13, y14, y15, y16, y17, y18, y19, y20, y21, some (.ref wr), y23, none, none, y26, y27] h' D) :
    wSs GH (ir_hE :: R) [some (.ils (ns.map PV.int)), some (.int k), y2, y3, y4, y5, y6, y7, y8, y9, y10, some (.int n), some (.ref rr), y13, y14, y15, y16, y17, y18, y19, y20, y21, some (.ref wr), none, none, none, y26, y27] h D := by
  unfold ir_hE
  have d30 : divOk 30 := divOk_of (by decide) (by decide)
  have q0 := Int.emod_nonneg (n / 30) (show (3 : Int) ≠ 0 by decide)
  have q1 := Int.emod_lt_of_pos (n / 30) (show (0 : Int) < 3 by decide)
  refine wSs_step ?_; simp_arith [d30]
  refine ⟨by omega, by omega, ?_⟩
  refine wFor_num (fun i σ h' => ∃ (V : List Wt) (y18 y19 y23 : Option PV), V.length = i ∧ (∀ w ∈ V, WOk2 w) ∧ Ext h0 h' ∧ h'[wr]? = some (.lst ((W ++ V).map wtV)) ∧ σ = [some (.ils (ns.map PV.int)), some (.int k), y2, y3, y4, y5, y6, y7, y8, y9, y10, some (.int n), some (.ref rr), y13, y14, y15, y16, y17, y18, y19, y20, y21, some (.ref wr), y23, none, none, y26, y27]) (n / 30 % 3).toNat 0 _ _ ⟨[], _, _, _, rfl, (fun p z => nomatch z), X0, by rw [List.append_nil]; exact ew, rfl⟩ ?_ ?_
  · rintro i σ h' _ i2 ⟨V, y18, y19, y23, lV, hV, X, ew', rfl⟩
    refine ⟨_, rfl, fun K hK => ?_⟩
    show wSs _ _ [some (.ils (ns.map PV.int)), some (.int k), y2, y3, y4, y5, y6, y7, y8, y9, y10, some (.int n), some (.ref rr), y13, y14, y15, y16, y17, some (.int (i : Int)), y19, y20, y21, some (.ref wr), y23, none, none, y26, y27] _ _
    unfold ir_hEb
    refine wSs_step ?_; simp_arith []
    refine numb_M l (by omega) (by omega) fun m m0 m1 => ?_
    try simp_arith []
    have er' := X _ _ er
    have tp : (0 : Int) < (T.length : Int) - 1 := by omega
    have dt : divOk ((T.length : Int) - 1) := divOk_of tp (by omega)
    have a0 := Int.emod_nonneg m (show (T.length : Int) - 1 ≠ 0 by omega)
    have a1 := Int.emod_lt_of_pos m tp
    refine wSs_step ?_; simp_arith [er', dt, tp]
    generalize m % ((T.length : Int) - 1) = a at *
    have up : (0 : Int) < (T.length : Int) - 1 - a := by omega
    have du : divOk ((T.length : Int) - 1 - a) := divOk_of up (by omega)
    have d10 : divOk 10 := divOk_of (by decide) (by decide)
    have d100 : divOk 100 := divOk_of (by decide) (by decide)
    have b0 := Int.emod_nonneg (m / 10) (show (T.length : Int) - 1 - a ≠ 0 by omega)
    have b1 := Int.emod_lt_of_pos (m / 10) up
    have lb : (W ++ V).length < 16777216 := by rw [List.length_append]; omega
    refine wSs_step ?_; simp_arith [ew', er', d10, du, up, d100, lb]
    refine hK _ _ ⟨V ++ [(a, a + 1 + m / 10 % ((T.length : Int) - 1 - a), m / 100 % 4)], _, _, _, by rw [List.length_append, lV]; rfl, fun w mw => ?_, X.set' wl, ?_, rfl⟩
    · rcases List.mem_append.mp mw with mw | mw
      · exact hV w mw
      · rw [List.mem_singleton.mp mw]
        refine ⟨a0, ?_, ?_, ?_, ?_, ?_⟩
        · show a ≤ 20; omega
        · show 0 ≤ a + 1 + m / 10 % ((T.length : Int) - 1 - a); omega
        · show a + 1 + m / 10 % ((T.length : Int) - 1 - a) ≤ 20; omega
        · show 0 ≤ m / 100 % 4; omega
        · show m / 100 % 4 ≤ 20; omega
    · rw [set_get ew', ← List.append_assoc, List.map_append (l₁ := W ++ V)]; rfl
  · rintro σ h' ⟨V, y18, y19, y23, lV, hV, X, ew', rfl⟩
    exact kf V _ _ _ h' (by omega) hV X ew'
end Law

/-! k80p: a book made harder, whole -/
namespace Law
open PySem Z Com
/-- what a harder book is told to be -/
structure Hder (B C : Bk) : Prop where
  f : Form C
  h : Hard B C
  ml : C.MS.length ≤ 4
  x : ∀ p ∈ C.FX, p.2 ≤ 30
  xl : C.FX.length ≤ 2
def ir_hF : List Sm := [.set (.nm 26) (.bi .list [(.var 7)]),
  .set (.nm 27) (.bin .Mod (.bin .FloorDiv (.var 11) (.int 100)) (.bi .len [(.var 12)])),
  .ife (.and (.cmp .NotIn (.var 27) (.var 8)) (.cmp .Eq (.bin .Mod (.bin .FloorDiv (.var 11) (.int 1000)) (.int 3)) (.int 1))) [.exp (.mi .append (.var 26) [(.xtp [(.var 27), (.bin .Add (.idx (.idx (.var 12) (.var 27)) (.int 4)) (.bin .Mod (.bin .FloorDiv (.var 11) (.int 3000)) (.int 9)))])])] [],
  .ret (.xtp [(.var 3), (.bi .xtuple [(.var 14)]), (.bi .xtuple [(.var 12)]), (.bi .xtuple [(.var 22)]), (.bi .xtuple [(.var 26)])])]
theorem hF_ok {n : Int} {hr rr sr wr : Nat} {MS : List Str} {S : List (Str × Int)} {T : List (Str × Tk)} {W : List Wt} {FX : List (Int × Int)} {I : List Int} {y0 y1 y2 y4 y5 y6 y9 y10 y13 y15 y16 y17 y18 y19 y20 y21 y23 y24 y25 : Option PV} {h : Hep} {D : Dz} (n0 : 0 ≤ n) (T2 : 2 ≤ T.length) (T9 : T.length ≤ 9) (lX : FX.length ≤ 1) (hfs : ∀ p ∈ T, 0 ≤ p.2.fs ∧ p.2.fs ≤ 11) (eh : h[hr]? = some (.lst (I.map PV.int))) (er : h[rr]? = some (.lst (T.map tkV))) (es : h[sr]? = some (.lst (S.map ndV))) (ew : h[wr]? = some (.lst (W.map wtV)))
    (kf : ∀ (A : List (Int × Int)) h', A.length ≤ 1 → (∀ p ∈ A, 0 ≤ p.1 ∧ p.1 < T.length ∧ 0 ≤ p.2 ∧ p.2 ≤ 30) → Ext h h' → D.rt (bkV ⟨MS, S, T, W, FX ++ A⟩) h') :
    wSs GH ir_hF [y0, y1, y2, some (.itp (MS.map PV.str)), y4, y5, y6, some (.itp (FX.map fxV)), some (.ref hr), y9, y10, some (.int n), some (.ref rr), y13, some (.ref sr), y15, y16, y17, y18, y19, y20, y21, some (.ref wr), y23, y24, y25, none, none] h D := by
  unfold ir_hF
  have d100 : divOk 100 := divOk_of (by decide) (by decide)
  have d1k : divOk 1000 := divOk_of (by decide) (by decide)
  have d3k : divOk 3000 := divOk_of (by decide) (by decide)
  have tp : (0 : Int) < T.length := by omega
  have dt : divOk (T.length : Int) := divOk_of tp (by omega)
  have a0 := Int.emod_nonneg (n / 100) (show (T.length : Int) ≠ 0 by omega)
  have a1 := Int.emod_lt_of_pos (n / 100) tp
  have X1 : Ext h (h ++ [Ob.lst (FX.map fxV)]) := .app
  have en := new_get (h := h) (o := Ob.lst (FX.map fxV))
  refine wSs_step ?_; simp_arith []
  generalize hq : h ++ [Ob.lst (FX.map fxV)] = h1 at *
  generalize hl : h.length = xr at *
  have er1 := X1 _ _ er
  have es1 := X1 _ _ es
  have ew1 := X1 _ _ ew
  have eh1 := X1 _ _ eh
  refine wSs_step ?_; simp_arith [er1, d100, dt, tp]
  generalize ha : n / 100 % (T.length : Int) = a at *
  have fin : wSs GH [.ret (.xtp [(.var 3), (.bi .xtuple [(.var 14)]), (.bi .xtuple [(.var 12)]), (.bi .xtuple [(.var 22)]), (.bi .xtuple [(.var 26)])])] [y0, y1, y2, some (.itp (MS.map PV.str)), y4, y5, y6, some (.itp (FX.map fxV)), some (.ref hr), y9, y10, some (.int n), some (.ref rr), y13, some (.ref sr), y15, y16, y17, y18, y19, y20, y21, some (.ref wr), y23, y24, y25, some (.ref xr), some (.int a)] h1 D := by
    refine wSs_step ?_; simp_arith [er1, es1, ew1, en]
    have := kf [] h1 (Nat.zero_le _) (fun p z => nomatch z) X1
    rw [List.append_nil] at this
    exact this
  refine wSs_step ?_
  simp_arith [eh1]
  refine inL_ints ?_
  by_cases c : a ∈ I
  · simp_arith [c]
    exact fin
  · by_cases c2 : n / 1000 % 3 = 1
    · simp_arith [c, d1k, c2]
      have jl : a.toNat < T.length := by omega
      have ij : ixN T.length a = some a.toNat := ixN_int a0 (by omega)
      have gj : T[a.toNat]? = some T[a.toNat] := List.getElem?_eq_getElem jl
      have pm : T[a.toNat] ∈ T := List.getElem_mem jl
      generalize T[a.toNat] = p at gj pm
      have fp : tkV p = .itp [.str p.1, .int p.2.l, .str p.2.mc, .itp (p.2.nd.map ndV), .int p.2.fs, dueV p.2.due, .int p.2.wt] := rfl
      have i74 : ixN 7 4 = some 4 := rfl
      obtain ⟨f0, f1⟩ := hfs p pm
      have lb : FX.length < 16777216 := by omega
      have nr : rr ≠ xr := by have := (List.getElem?_eq_some_iff.mp er).1; omega
      have nsr : sr ≠ xr := by have := (List.getElem?_eq_some_iff.mp es).1; omega
      have nw : wr ≠ xr := by have := (List.getElem?_eq_some_iff.mp ew).1; omega
      refine wSs_step ?_; simp_arith [en, er1, ij, gj, fp, i74, d3k, lb]
      have en2 : (h1.set xr (Ob.lst (FX.map fxV ++ [PV.itp [.int a, .int (p.2.fs + n / 3000 % 9)]])))[xr]? = some (Ob.lst (FX.map fxV ++ [PV.itp [.int a, .int (p.2.fs + n / 3000 % 9)]])) := set_get en
      have er2 : (h1.set xr (Ob.lst (FX.map fxV ++ [PV.itp [.int a, .int (p.2.fs + n / 3000 % 9)]])))[rr]? = some (.lst (T.map tkV)) := by rw [List.getElem?_set_ne (Ne.symm nr)]; exact er1
      have es2 : (h1.set xr (Ob.lst (FX.map fxV ++ [PV.itp [.int a, .int (p.2.fs + n / 3000 % 9)]])))[sr]? = some (.lst (S.map ndV)) := by rw [List.getElem?_set_ne (Ne.symm nsr)]; exact es1
      have ew2 : (h1.set xr (Ob.lst (FX.map fxV ++ [PV.itp [.int a, .int (p.2.fs + n / 3000 % 9)]])))[wr]? = some (.lst (W.map wtV)) := by rw [List.getElem?_set_ne (Ne.symm nw)]; exact ew1
      have X2 := X1.set' (r := xr) (o := Ob.lst (FX.map fxV ++ [PV.itp [.int a, .int (p.2.fs + n / 3000 % 9)]])) (by omega)
      generalize h1.set xr (Ob.lst (FX.map fxV ++ [PV.itp [.int a, .int (p.2.fs + n / 3000 % 9)]])) = h2 at *
      refine wSs_step ?_; simp_arith [en2, er2, es2, ew2]
      have := kf [(a, p.2.fs + n / 3000 % 9)] h2 (Nat.le_refl _) (fun q mq => by rw [List.mem_singleton.mp mq]; exact ⟨a0, a1, by show 0 ≤ p.2.fs + n / 3000 % 9; omega, by show p.2.fs + n / 3000 % 9 ≤ 30; omega⟩) X2
      unfold bkV at this
      rw [List.map_append] at this
      exact this
    · simp_arith [c, d1k, c2]
      exact fin
def sp__law_harder : Z.Spec := fun args h F _ => ∃ (ns : List Int) (k : Int) (B : Bk), args = [.ils (ns.map PV.int), .int k, bkV B] ∧ ns.length ≤ 63 ∧ 0 ≤ k ∧ k ≤ 10 ^ 8 ∧ Base B ∧ ∀ C h', Hder B C → Ext h h' → F (bkV C) h'
theorem zip_l {α β : Type} : ∀ {l : List α} {r : List β} {i : Nat} {a : α} {b : β}, l[i]? = some a → r[i]? = some b → (a, b) ∈ l.zip r
  | x :: l, y :: r, 0, a, b, e1, e2 => by cases e1; cases e2; exact List.mem_cons_self
  | x :: l, y :: r, i + 1, a, b, e1, e2 => List.mem_cons_of_mem _ (zip_l (i := i) (by simpa using e1) (by simpa using e2))
  | [], _, _, _, _, e1, _ => by cases e1
  | _ :: _, [], _, _, _, _, e2 => by cases e2
theorem zip_r {α β : Type} : ∀ {l : List α} {r : List β} {b : β}, r.length = l.length → b ∈ r → ∃ a, (a, b) ∈ l.zip r
  | _, [], _, _, m => nomatch m
  | [], y :: r, _, e, _ => by cases e
  | x :: l, y :: r, b, e, m => by
    rcases List.mem_cons.mp m with rfl | m
    · exact ⟨x, List.mem_cons_self⟩
    · obtain ⟨a, h⟩ := zip_r (l := l) (r := r) (by simpa using e) m
      exact ⟨a, List.mem_cons_of_mem _ h⟩
/-- the plain part -/
theorem hder {B : Bk} {n : Int} {Q N : List (Str × Tk)} {V : List Wt} {A : List (Int × Int)} (b : Base B) (n0 : 0 ≤ n) (lQ : Q.length = B.NT.length) (hQ : ∀ x ∈ B.NT.zip Q, HRow B.G x.1 x.2) (lN : N.length ≤ 2) (hN : ∀ p ∈ N, NewR p) (lV : V.length ≤ 2) (hV : ∀ w ∈ V, WOk2 w) (lA : A.length ≤ 1) (hA : ∀ p ∈ A, 0 ≤ p.1 ∧ p.1 < (Q ++ N).length ∧ 0 ≤ p.2 ∧ p.2 ≤ 30) :
    Hder B ⟨B.MS, B.G.map (sk Q n), Q ++ N, B.W.map (wu n) ++ V, B.FX ++ A⟩ := by
  have gl := b.g.l
  have n1 := b.n1
  have n2 := b.n2
  have wl := b.wl
  have xl := b.xl
  have ml := b.ml
  have nQ : ∀ q ∈ Q, NdIn q.2.nd B.G ∧ OkS q.1 ∧ FormT q.2 := fun q mq => by
    obtain ⟨a, m⟩ := zip_r lQ mq
    have r := hQ _ m
    refine ⟨r.n, ?_, r.f⟩
    have am : a ∈ B.NT := (List.of_mem_zip m).1
    have := (b.t a am).o
    rw [show q.1 = a.1 from r.o]; exact this
  have sG : ∀ p ∈ B.G, 1 ≤ (sk Q n p).2 ∧ (sk Q n p).2 ≤ p.2 := fun p m => by
    obtain ⟨w1, w2⟩ := wan_le b.g (fun q mq => (nQ q mq).1) m
    have : 0 ≤ n % 3 := Int.emod_nonneg _ (by decide)
    unfold sk
    constructor
    · show 1 ≤ max (wan Q p.1) (p.2 - n % 3); omega
    · show max (wan Q p.1) (p.2 - n % 3) ≤ p.2; omega
  have f1 : (B.G.map (sk Q n)).map (·.1) = B.G.map (·.1) := by rw [List.map_map]; rfl
  refine ⟨⟨b.ms, by show B.MS.length ≤ 6; omega, by show ((B.G.map (sk Q n)).map (·.1)).Nodup; rw [f1]; exact b.g.nn, fun p mp => ?_, by show (B.G.map (sk Q n)).length ≤ 8; rw [List.length_map]; omega, ?_, ?_, fun p mp => ?_, fun w mw => ?_, ?_, fun p mp => ?_, ?_⟩, ⟨rfl, ?_, fun p mp => ?_, fun i x y ex ey => ?_, fun w mw => ?_, fun p mp => List.mem_append_left _ mp⟩, ml, fun p mp => ?_, ?_⟩
  · obtain ⟨p, mp2, rfl⟩ := List.mem_map.mp mp
    obtain ⟨o, c1, c2⟩ := b.g.g p mp2
    obtain ⟨s1, s2⟩ := sG p mp2
    exact ⟨o, s1, by omega⟩
  · show 1 ≤ (Q ++ N).length; rw [List.length_append]; omega
  · show (Q ++ N).length ≤ 9; rw [List.length_append]; omega
  · rcases List.mem_append.mp mp with mp | mp
    · exact (nQ p mp).2
    · exact ⟨(hN p mp).o, (hN p mp).f⟩
  · rcases List.mem_append.mp mw with mw | mw
    · obtain ⟨w, mw2, rfl⟩ := List.mem_map.mp mw
      obtain ⟨a1, a2, a3, a4, a5, a6⟩ := b.w w mw2
      refine ⟨a1, by show w.1 ≤ 10000; omega, a3, by show w.2.1 ≤ 10000; omega, ?_, ?_⟩
      · show 0 ≤ w.2.2 + if (w.1 + w.2.1) % 2 = 0 then 0 else n / 9 % 3
        split <;> omega
      · show (w.2.2 + if (w.1 + w.2.1) % 2 = 0 then 0 else n / 9 % 3) ≤ 10000
        split <;> omega
    · obtain ⟨a1, a2, a3, a4, a5, a6⟩ := hV w mw
      exact ⟨a1, by omega, a3, by omega, a5, by omega⟩
  · show (B.W.map (wu n) ++ V).length ≤ 100; rw [List.length_append, List.length_map]; omega
  · rcases List.mem_append.mp mp with mp | mp
    · obtain ⟨a1, a2, a3, a4⟩ := b.x p mp
      exact ⟨a1, by show p.1 < ((Q ++ N).length : Int); rw [List.length_append]; omega, a3, by omega⟩
    · obtain ⟨a1, a2, a3, a4⟩ := hA p mp
      exact ⟨a1, a2, a3, by omega⟩
  · show (B.FX ++ A).length ≤ 9; rw [List.length_append]; omega
  · show B.NT.length ≤ (Q ++ N).length; rw [List.length_append]; omega
  · exact ⟨_, List.mem_map.mpr ⟨p, mp, rfl⟩, (sG p mp).2⟩
  · have il := (List.getElem?_eq_some_iff.mp ex).1
    have ey : (Q ++ N)[i]? = some y := ey
    rw [List.getElem?_append_left (by omega)] at ey
    exact (hQ _ (zip_l ex ey)).h
  · refine ⟨wu n w, List.mem_append_left _ (List.mem_map.mpr ⟨w, mw, rfl⟩), rfl, rfl, ?_⟩
    show w.2.2 ≤ w.2.2 + if (w.1 + w.2.1) % 2 = 0 then 0 else n / 9 % 3
    split <;> omega
  · rcases List.mem_append.mp mp with mp | mp
    · have := (b.x p mp).2.2.2; omega
    · exact (hA p mp).2.2.2
  · show (B.FX ++ A).length ≤ 2; rw [List.length_append]; omega
theorem mt__law_harder : Meets GH 28 3 ir__law_harder sp__law_harder := by
  rintro args h F E ⟨ns, k, B, rfl, l, k0, k1, b, kf⟩
  refine ⟨rfl, ?_⟩
  rw [show ir__law_harder = .set (.tp [(.nm 3), (.nm 4), (.nm 5), (.nm 6), (.nm 7)]) (.var 2) :: .set (.nm 8) (.comp [9, 10] (.tp [(.nm 9), (.nm 10)]) (.wlk (.var 7)) none (.var 9)) :: .set (.nm 11) (.call 0 [(.var 0), (.var 1)]) :: .set (.nm 12) (.lst []) :: ir_hA :: .set (.nm 14) (.lst []) :: ir_hB :: ir_hC :: ir_hD :: ir_hE :: ir_hF from rfl]
  show wSs _ _ [some _, some _, some _, none, none, none, none, none, none, none, none, none, none, none, none, none, none, none, none, none, none, none, none, none, none, none, none, none] h _
  rw [show bkV B = .itp [.itp (B.MS.map PV.str), .itp (B.G.map ndV), .itp (B.NT.map tkV), .itp (B.W.map wtV), .itp (B.FX.map fxV)] from rfl]
  have xl := b.xl
  have n2 := b.n2
  have n1 := b.n1
  have wl := b.wl
  refine wSs_step ?_; simp_arith []
  refine wSs_step ?_; simp_arith []
  refine wComp_mp fxV (fun p => .int p.1) B.FX (fun h2 X2 => trivial) (fun p mp h2 X2 => ⟨_, rfl, fun G hG => by simp_arith []; exact hG _ X2⟩) (by show _ ≤ 16777216; omega) fun h1 X1 => ?_
  have eI : (B.FX.map fun p => PV.int p.1) = (B.FX.map (·.1)).map PV.int := by rw [List.map_map]; rfl
  rw [eI]
  try simp_arith []
  have Xh : Ext h1 (h1 ++ [Ob.lst ((B.FX.map (·.1)).map PV.int)]) := .app
  have eh := new_get (h := h1) (o := Ob.lst ((B.FX.map (·.1)).map PV.int))
  try rw [eI]
  generalize hq : h1 ++ [Ob.lst ((B.FX.map (·.1)).map PV.int)] = h2 at *
  generalize hl : h1.length = hr at *
  refine wSs_step ?_; simp_arith []
  refine numb_M l k0 (by omega) fun n n0 nn1 => ?_
  try simp_arith []
  refine wSs_step ?_; simp_arith []
  refine hA_ok (h0 := h2) l k0 k1 b.g b.t n2 eh new_get .app (Nat.le_refl _) fun Q y9 y13 h3 lQ hQ X3 er => ?_
  refine wSs_step ?_; simp_arith []
  have nQ : ∀ q ∈ Q, (q.2.nd.map (·.1)).Nodup := fun q mq => by
    obtain ⟨a, m⟩ := zip_r lQ mq
    exact (hQ _ m).f.nn
  have fQ : ∀ q ∈ Q, 0 ≤ q.2.fs ∧ q.2.fs ≤ 11 := fun q mq => by
    obtain ⟨a, m⟩ := zip_r lQ mq
    exact ⟨(hQ _ m).f.f1, (hQ _ m).fs⟩
  have rl3 := (List.getElem?_eq_some_iff.mp er).1
  refine hB_ok (h0 := h3) b.g.l (by omega) nQ er new_get .app (Nat.le_refl _) fun y15 y16 y17 h4 X4 es => ?_
  have sl4 := (List.getElem?_eq_some_iff.mp es).1
  refine hC_ok (h0 := h2) l k0 k1 n0 b.ms b.ml (by omega) (X4 _ _ er) (X3.trans X4) (Nat.le_refl _) fun N y18 y19 y20 y21 h5 lN hN hk5 X5 er5 => ?_
  have es5 := hk5 _ _ (by omega) es
  refine hD_ok (by omega) fun wr h6 wl6 X6 ew => ?_
  refine hE_ok (h0 := h5) l k0 k1 n0 (by rw [List.length_append]; omega) (by rw [List.length_append]; omega) (by rw [List.length_map]; omega) er5 ew X6 wl6 fun V y18 y19 y23 h7 lV hV X7 ew7 => ?_
  refine hF_ok n0 (by rw [List.length_append]; omega) (by rw [List.length_append]; omega) xl (fun p mp => ?_) (X7 _ _ (X5 _ _ eh)) (X7 _ _ er5) (X7 _ _ es5) ew7 fun A h8 lA hA X8 => ?_
  · rcases List.mem_append.mp mp with mp | mp
    · exact fQ p mp
    · exact ⟨(hN p mp).f.f1, (hN p mp).fs⟩
  · exact kf _ h8 (hder b n0 lQ hQ lN hN lV hV lA hA) (X1.trans (Xh.trans (X5.trans (X7.trans X8))))
end Law

/-! k80q: what is shown of a book -/
namespace Law
open PySem Z Com
theorem show_g {i : Int} (h0 : 0 ≤ i) (h1 : i ≤ 1000000000) : PyData.leavesShort 10 (.int i) = true ∧ PyData.showable (.int i) = true := by
  refine ⟨decide_eq_true (Nat.le_trans (PyProof.Rows.toString_length_le h0 (k := 10) (by decide) (by omega)) (by decide)), ?_⟩
  have : i.natAbs.log2 < 1920 := by
    by_cases z : i.natAbs = 0
    · rw [z]; decide
    · have := (Nat.log2_lt z (k := 64)).mpr (by omega)
      omega
  exact decide_eq_true this
structure Nice (n K : Nat) (x : PV) (d : PyData) : Prop where
  e : ∀ (h : Hep) (m : Nat), n ≤ m → dat h m x = some d
  c : d.canLay0 = true
  s : d.showable = true
  l : d.leavesShort 10 = true
  b : d.bulk ≤ K
theorem Nice.mono {n n' K K' : Nat} {x : PV} {d : PyData} (a : Nice n K x d) (h : n ≤ n') (k : K ≤ K') : Nice n' K' x d :=
  ⟨fun h' m l => a.e h' m (by omega), a.c, a.s, a.l, Nat.le_trans a.b k⟩
theorem nice_int {i : Int} (h0 : 0 ≤ i) (h1 : i ≤ 1000000000) : Nice 0 0 (.int i) (.int i) :=
  ⟨fun h m _ => dat_int h m i, rfl, (show_g h0 h1).2, (show_g h0 h1).1, Nat.le_refl _⟩
theorem nice_str {s : Str} (o : OkS s) : Nice 0 10 (.str s) (.str s) := ⟨fun h m _ => by cases m <;> rfl, o.1, rfl, o.2.1, o.2.2⟩
theorem nice_due {o : Option Int} (h : ∀ d, o = some d → 0 ≤ d ∧ d ≤ 10000) : ∃ d, Nice 0 0 (dueV o) d := by
  cases o with
  | none => exact ⟨.none, fun h m _ => by cases m <;> rfl, rfl, rfl, rfl, Nat.le_refl _⟩
  | some d => exact ⟨_, nice_int (h d rfl).1 (by have := h d rfl; omega)⟩
theorem nice_all {n K : Nat} : ∀ xs : List PV, (∀ x ∈ xs, ∃ d, Nice n K x d) → ∃ ds : List PyData, (∀ (h : Hep) (m : Nat), n ≤ m → datAll (dat h m) xs = some ds) ∧ PyData.canLayAll0 ds = true ∧ PyData.showableAll ds = true ∧ PyData.leavesShortAll 10 ds = true ∧ PyData.bulkAll ds ≤ xs.length * (K + 1)
  | [], _ => ⟨[], fun _ _ _ => rfl, rfl, rfl, rfl, Nat.zero_le _⟩
  | x :: xs, k => by
    obtain ⟨d, a⟩ := k x List.mem_cons_self
    obtain ⟨ds, e, c, s, l, b⟩ := nice_all xs fun y m => k y (List.mem_cons_of_mem _ m)
    refine ⟨d :: ds, fun h m le => ?_, ?_, ?_, ?_, ?_⟩
    · rw [datAll, a.e h m le, e h m le]
    · show (d.canLay0 && PyData.canLayAll0 ds) = true; rw [a.c, c]; rfl
    · show (d.showable && PyData.showableAll ds) = true; rw [a.s, s]; rfl
    · show (d.leavesShort 10 && PyData.leavesShortAll 10 ds) = true; rw [a.l, l]; rfl
    · show d.bulk + 1 + PyData.bulkAll ds ≤ (xs.length + 1) * (K + 1)
      have := a.b
      rw [Nat.add_mul, Nat.one_mul]; omega
theorem nice_tup {n K L : Nat} {xs : List PV} (k : ∀ x ∈ xs, ∃ d, Nice n K x d) (l : xs.length ≤ L) : ∃ d, Nice (n + 1) (L * (K + 1)) (.itp xs) d := by
  obtain ⟨ds, e, c, s, lv, b⟩ := nice_all xs k
  refine ⟨.tuple ds, fun h m le => ?_, c, s, lv, Nat.le_trans b (Nat.mul_le_mul_right _ l)⟩
  obtain ⟨m, rfl⟩ : ∃ m', m = m' + 1 := ⟨m - 1, by omega⟩
  show (datAll (dat h m) xs).map PyData.tuple = _
  rw [e h m (by omega)]; rfl
theorem nice_map {α : Type} {n K L : Nat} {f : α → PV} {l : List α} (k : ∀ x ∈ l, ∃ d, Nice n K (f x) d) (ll : l.length ≤ L) : ∃ d, Nice (n + 1) (L * (K + 1)) (.itp (l.map f)) d :=
  nice_tup (fun x m => by obtain ⟨y, my, rfl⟩ := List.mem_map.mp m; exact k y my) (by rw [List.length_map]; exact ll)
theorem ex_mono {n n' K K' : Nat} {x : PV} (h : n ≤ n') (k : K ≤ K') : (∃ d, Nice n K x d) → ∃ d, Nice n' K' x d := fun ⟨d, a⟩ => ⟨d, a.mono h k⟩
theorem nice_nd {p : Str × Int} (o : OkS p.1) (h0 : 0 ≤ p.2) (h1 : p.2 ≤ 1000000000) : ∃ d, Nice 1 22 (ndV p) d :=
  nice_tup (n := 0) (K := 10) (L := 2) (fun x m => by
    simp only [List.mem_cons, List.not_mem_nil, or_false] at m
    rcases m with rfl | rfl
    · exact ⟨_, nice_str o⟩
    · exact ⟨_, (nice_int h0 h1).mono (by decide) (by decide)⟩) (Nat.le_refl _)
theorem nice_tk {p : Str × Tk} (o : OkS p.1) (f : FormT p.2) : ∃ d, Nice 3 1295 (tkV p) d := by
  have l1 := f.l1
  have l2 := f.l2
  have f1 := f.f1
  have f2 := f.f2
  have w1 := f.w1
  have w2 := f.w2
  refine nice_tup (n := 2) (K := 184) (L := 7) (fun x m => ?_) (Nat.le_refl _)
  simp only [List.mem_cons, List.not_mem_nil, or_false] at m
  rcases m with rfl | rfl | rfl | rfl | rfl | rfl | rfl
  · exact ⟨_, (nice_str o).mono (by decide) (by decide)⟩
  · exact ⟨_, (nice_int (by omega) (by omega)).mono (by decide) (by decide)⟩
  · exact ⟨_, (nice_str f.mc).mono (by decide) (by decide)⟩
  · exact nice_map (n := 1) (K := 22) (L := 8) (fun q mq => by obtain ⟨a, b, c⟩ := f.n q mq; exact nice_nd a (by omega) (by omega)) f.nl
  · exact ⟨_, (nice_int (by omega) (by omega)).mono (by decide) (by decide)⟩
  · exact ex_mono (by decide) (by decide) (nice_due f.d)
  · exact ⟨_, (nice_int (by omega) (by omega)).mono (by decide) (by decide)⟩
theorem nice_wt {w : Wt} (h : 0 ≤ w.1 ∧ w.1 ≤ 10000 ∧ 0 ≤ w.2.1 ∧ w.2.1 ≤ 10000 ∧ 0 ≤ w.2.2 ∧ w.2.2 ≤ 10000) : ∃ d, Nice 1 3 (wtV w) d := by
  obtain ⟨a1, a2, a3, a4, a5, a6⟩ := h
  refine nice_tup (n := 0) (K := 0) (L := 3) (fun x m => ?_) (Nat.le_refl _)
  simp only [List.mem_cons, List.not_mem_nil, or_false] at m
  rcases m with rfl | rfl | rfl
  · exact ⟨_, nice_int a1 (by omega)⟩
  · exact ⟨_, nice_int a3 (by omega)⟩
  · exact ⟨_, nice_int a5 (by omega)⟩
theorem nice_fx {p : Int × Int} (a1 : 0 ≤ p.1) (a2 : p.1 ≤ 1000) (a3 : 0 ≤ p.2) (a4 : p.2 ≤ 100000) : ∃ d, Nice 1 2 (fxV p) d := by
  refine nice_tup (n := 0) (K := 0) (L := 2) (fun x m => ?_) (Nat.le_refl _)
  simp only [List.mem_cons, List.not_mem_nil, or_false] at m
  rcases m with rfl | rfl
  · exact ⟨_, nice_int a1 (by omega)⟩
  · exact ⟨_, nice_int a3 (by omega)⟩
theorem nice_bk {B : Bk} (f : Form B) : ∃ d, Nice 5 58325 (bkV B) d := by
  have n2 := f.n2
  refine nice_tup (n := 4) (K := 11664) (L := 5) (fun x m => ?_) (Nat.le_refl _)
  simp only [List.mem_cons, List.not_mem_nil, or_false] at m
  rcases m with rfl | rfl | rfl | rfl | rfl
  · exact ex_mono (by decide) (by decide) (nice_map (n := 0) (K := 10) (L := 6) (fun s ms => ⟨_, nice_str (f.ms s ms)⟩) f.ml)
  · exact ex_mono (by decide) (by decide) (nice_map (n := 1) (K := 22) (L := 8) (fun q mq => by obtain ⟨a, b, c⟩ := f.g2 q mq; exact nice_nd a (by omega) (by omega)) f.gl)
  · exact nice_map (n := 3) (K := 1295) (L := 9) (fun p mp => nice_tk (f.t p mp).1 (f.t p mp).2) f.n2
  · exact ex_mono (by decide) (by decide) (nice_map (n := 1) (K := 3) (L := 100) (fun w mw => nice_wt (f.w w mw)) f.wl)
  · exact ex_mono (by decide) (by decide) (nice_map (n := 1) (K := 2) (L := 9) (fun p mp => by obtain ⟨a1, a2, a3, a4⟩ := f.x p mp; exact nice_fx a1 (by omega) a3 a4) f.xl)
/-- three books in a list -/
theorem nice_three {B C E : Bk} (fB : Form B) (fC : Form C) (fE : Form E) : ∃ d, (∀ (h : Hep) (r : Nat), h[r]? = some (.lst [bkV B, bkV C, bkV E]) → dat h 59 (.ref r) = some d) ∧ SeqAt.shaped d = true ∧ d.showable = true ∧ d.shown.length ≤ 16777216 := by
  obtain ⟨ds, e, c, s, l, b⟩ := nice_all (n := 5) (K := 58325) [bkV B, bkV C, bkV E] fun x m => by
    simp only [List.mem_cons, List.not_mem_nil, or_false] at m
    rcases m with rfl | rfl | rfl
    · exact nice_bk fB
    · exact nice_bk fC
    · exact nice_bk fE
  have ee : ∀ (h : Hep) (r : Nat), h[r]? = some (.lst [bkV B, bkV C, bkV E]) → dat h 59 (.ref r) = some (.list ds) := fun h r er => dat_lst er (e h 58 (by decide))
  refine ⟨.list ds, ee, dat_shaped (by decide) (ee [.lst [bkV B, bkV C, bkV E]] 0 rfl) c, s, ?_⟩
  have := PyData.shown_le_bulk 10 (by decide) (.list ds) l
  have b1 : PyData.bulk (.list ds) ≤ 3 * (58325 + 1) := b
  omega
end Law

/-! k80r: a row made easier -/
namespace Law
open PySem Z Com
structure OldT (t : Tk) : Prop where
  f : FormT t
  d : ∀ d, t.due = some d → d ≤ 30
def sp__law_easier_row : Z.Spec := fun args h F _ => ∃ (n w : Int) (p o : Str × Tk), args = [.int n, .int w, tkV p, tkV o] ∧ 0 ≤ n ∧ FormT p.2 ∧ OldT o.2 ∧ ∀ t h', FormT t → Ext h h' → F (tkV (p.1, t)) h'
def ex_er : Ex := (.xtp [(.var 12), (.bi .max2 [(.int 1), (.bin .Sub (.var 13) (.int 1))])])
def ir_er2 : Sm := .ife (.cmp .Eq (.var 1) (.int 2)) [.set (.nm 7) (.bi .xtuple [(.comp [12, 13] (.tp [(.nm 12), (.nm 13)]) (.wlk (.idx (.var 3) (.int 3))) none ex_er)])] [.ife (.cmp .Eq (.var 1) (.int 3)) [.set (.nm 8) (.bi .max2 [(.int 0), (.bin .Sub (.idx (.var 3) (.int 4)) (.bin .Mod (.var 11) (.int 2)))])] [.ife (.cmp .Eq (.var 1) (.int 4)) [.set (.nm 9) (.ife (.or (.cmp .Is (.idx (.var 3) (.int 5)) .non) (.cmp .Eq (.var 11) (.int 1))) .non (.bin .Add (.idx (.var 3) (.int 5)) (.var 11)))] [.set (.nm 10) (.int 0)]]]
def ir_er : Sm := .ife (.cmp .Eq (.var 1) (.int 0)) [.set (.nm 5) (.bi .max2 [(.int 1), (.bin .Sub (.idx (.var 3) (.int 1)) (.bin .Mod (.var 11) (.int 2)))])] [.ife (.cmp .Eq (.var 1) (.int 1)) [.set (.nm 6) (.ife (.cmp .Eq (.var 11) (.int 1)) (.idx (.var 3) (.int 2)) (.str ""))] [ir_er2]]
theorem mt__law_easier_row : Meets [] 14 4 ir__law_easier_row sp__law_easier_row := by
  rintro args h F E ⟨n, w, p, o, rfl, n0, fp, fo, k⟩
  refine ⟨rfl, ?_⟩
  rw [show ir__law_easier_row = .set (.tp [(.nm 4), (.nm 5), (.nm 6), (.nm 7), (.nm 8), (.nm 9), (.nm 10)]) (.var 2) :: .set (.nm 11) (.bin .Mod (.bin .FloorDiv (.var 0) (.int 200)) (.int 3)) :: ir_er :: [.ret (.xtp [(.var 4), (.var 5), (.var 6), (.var 7), (.var 8), (.var 9), (.var 10)])] from rfl]
  show wSs _ _ [some _, some _, some _, some _, none, none, none, none, none, none, none, none, none, none] h _
  have up : tkV p = .itp [.str p.1, .int p.2.l, .str p.2.mc, .itp (p.2.nd.map ndV), .int p.2.fs, dueV p.2.due, .int p.2.wt] := rfl
  have uo : tkV o = .itp [.str o.1, .int o.2.l, .str o.2.mc, .itp (o.2.nd.map ndV), .int o.2.fs, dueV o.2.due, .int o.2.wt] := rfl
  have d2 : divOk 200 := divOk_of (by decide) (by decide)
  rw [up]
  refine wSs_step ?_; simp_arith []
  refine wSs_step ?_; simp_arith [d2]
  have m0 := Int.emod_nonneg (n / 200) (show (3 : Int) ≠ 0 by decide)
  have m1 := Int.emod_lt_of_pos (n / 200) (show (0 : Int) < 3 by decide)
  generalize n / 200 % 3 = m at *
  have dd : divOk 2 := divOk_of (by decide) (by decide)
  -- the row is told
  have fin : ∀ (y3 : Option PV) (l : Int) (mc : Str) (nd : List (Str × Int)) (fs wt : Int) (due : Option Int) h', FormT ⟨l, mc, nd, fs, due, wt⟩ → Ext h h' → wSs [] [.ret (.xtp [(.var 4), (.var 5), (.var 6), (.var 7), (.var 8), (.var 9), (.var 10)])] [some (.int n), some (.int w), some (.itp [.str p.1, .int p.2.l, .str p.2.mc, .itp (p.2.nd.map ndV), .int p.2.fs, dueV p.2.due, .int p.2.wt]), y3, some (.str p.1), some (.int l), some (.str mc), some (.itp (nd.map ndV)), some (.int fs), some (dueV due), some (.int wt), some (.int m), none, none] h' { nx := fun _ h' => F .non h', rt := F, ex := fun x _ h' => E x h' } := by
    intro y3 l mc nd fs wt due h' ft X
    refine wSs_step ?_; simp_arith []
    exact k ⟨l, mc, nd, fs, due, wt⟩ h' ft X
  have fp' : FormT ⟨p.2.l, p.2.mc, p.2.nd, p.2.fs, p.2.due, p.2.wt⟩ := fp
  obtain ⟨l1, l2, mc, nn, nl, nk, f1, f2, df, w1, w2⟩ := fp
  have ol1 := fo.f.l1
  have ol2 := fo.f.l2
  have of1 := fo.f.f1
  have of2 := fo.f.f2
  have i71 : ixN 7 1 = some 1 := rfl
  have i72 : ixN 7 2 = some 2 := rfl
  have i73 : ixN 7 3 = some 3 := rfl
  have i74 : ixN 7 4 = some 4 := rfl
  have i75 : ixN 7 5 = some 5 := rfl
  by_cases c0 : w = 0
  · subst c0
    rw [uo]
    refine wSs_step ?_; simp_arith [ir_er]
    refine wSs_step ?_; simp_arith [i71, dd]
    exact fin _ _ _ _ _ _ _ h ⟨by show 1 ≤ max 1 (o.2.l - m % 2); omega, by show max 1 (o.2.l - m % 2) ≤ 1000; omega, mc, nn, nl, nk, f1, f2, df, w1, w2⟩ .rfl'
  by_cases c1 : w = 1
  · subst c1
    rw [uo]
    refine wSs_step ?_; simp_arith [ir_er]
    by_cases e : m = 1
    · refine wSs_step ?_; simp_arith []
      refine wSs_step ?_; simp_arith [e, i72]
      rw [e] at fin
      exact fin _ _ _ _ _ _ _ h ⟨l1, l2, fo.f.mc, nn, nl, nk, f1, f2, df, w1, w2⟩ .rfl'
    · refine wSs_step ?_; simp_arith []
      refine wSs_step ?_; simp_arith [e]
      exact fin _ _ _ _ _ _ _ h ⟨l1, l2, ok_empty, nn, nl, nk, f1, f2, df, w1, w2⟩ .rfl'
  by_cases c2 : w = 2
  · subst c2
    have onl := fo.f.nl
    rw [uo]
    refine wSs_step ?_; simp_arith [ir_er]
    refine wSs_step ?_; simp_arith []
    refine wSs_step ?_; simp_arith [ir_er2]
    refine wSs_step ?_; simp_arith [i73]
    refine wComp_mp ndV (fun q => ndV (q.1, max 1 (q.2 - 1))) o.2.nd (fun h2 X2 => trivial) (fun q mq h2 X2 => ⟨_, rfl, fun G hG => by simp_arith [ex_er]; exact hG _ X2⟩) (by show _ ≤ 16777216; omega) fun h2 X2 => ?_
    have e : o.2.nd.map (fun q => ndV (q.1, max 1 (q.2 - 1))) = (o.2.nd.map fun q => (q.1, max 1 (q.2 - 1))).map ndV := by rw [List.map_map]; rfl
    rw [e]
    try simp_arith []
    simp_arith [new_get]
    refine fin _ _ _ _ _ _ _ _ ⟨l1, l2, mc, ?_, by rw [List.length_map]; exact onl, fun q mq => ?_, f1, f2, df, w1, w2⟩ (X2.trans .app)
    · have : (o.2.nd.map fun q => (q.1, max 1 (q.2 - 1))).map (·.1) = o.2.nd.map (·.1) := by rw [List.map_map]; rfl
      show (((o.2.nd.map fun q => (q.1, max 1 (q.2 - 1)))).map (·.1)).Nodup
      rw [this]; exact fo.f.nn
    · obtain ⟨x, mx, rfl⟩ := List.mem_map.mp mq
      obtain ⟨a, b, c⟩ := fo.f.n x mx
      exact ⟨a, by show 1 ≤ max 1 (x.2 - 1); omega, by show max 1 (x.2 - 1) ≤ 1000; omega⟩
  by_cases c3 : w = 3
  · subst c3
    rw [uo]
    refine wSs_step ?_; simp_arith [ir_er]
    refine wSs_step ?_; simp_arith []
    refine wSs_step ?_; simp_arith [ir_er2]
    refine wSs_step ?_; simp_arith []
    refine wSs_step ?_; simp_arith [i74, dd]
    exact fin _ _ _ _ _ _ _ h ⟨l1, l2, mc, nn, nl, nk, by show 0 ≤ max 0 (o.2.fs - m % 2); omega, by show max 0 (o.2.fs - m % 2) ≤ 10000; omega, df, w1, w2⟩ .rfl'
  by_cases c4 : w = 4
  · subst c4
    rw [uo]
    refine wSs_step ?_; simp_arith [ir_er]
    refine wSs_step ?_; simp_arith []
    refine wSs_step ?_; simp_arith [ir_er2]
    refine wSs_step ?_; simp_arith []
    refine wSs_step ?_; simp_arith []
    cases hd : o.2.due with
    | none =>
      have nn' : dueV none = .non := rfl
      rw [nn']
      refine wSs_step ?_; simp_arith [i75]
      exact fin _ _ _ _ _ _ none h ⟨l1, l2, mc, nn, nl, nk, f1, f2, (fun d z => nomatch z), w1, w2⟩ .rfl'
    | some d =>
      have nn' : dueV (some d) = .int d := rfl
      rw [nn']
      have d1 := fo.d d hd
      have d0 := (fo.f.d d hd).1
      by_cases e : m = 1
      · refine wSs_step ?_; simp_arith [i75, e]
        rw [e] at fin
        exact fin _ _ _ _ _ _ none h ⟨l1, l2, mc, nn, nl, nk, f1, f2, (fun d z => nomatch z), w1, w2⟩ .rfl'
      · refine wSs_step ?_; simp_arith [i75, e]
        exact fin _ _ _ _ _ _ (some (d + m)) h ⟨l1, l2, mc, nn, nl, nk, f1, f2, (fun d' z => by cases z; omega), w1, w2⟩ .rfl'
  · refine wSs_step ?_; simp_arith [ir_er, c0]
    refine wSs_step ?_; simp_arith [c1]
    refine wSs_step ?_; simp_arith [ir_er2, c2]
    refine wSs_step ?_; simp_arith [c3]
    refine wSs_step ?_; simp_arith [c4]
    refine wSs_step ?_; simp_arith []
    exact fin _ _ _ _ _ _ _ h ⟨l1, l2, mc, nn, nl, nk, f1, f2, df, (by show (0 : Int) ≤ 0; decide), (by show (0 : Int) ≤ 10000; decide)⟩ .rfl'
end Law

/-! k80s: a book made easier in one point -/
namespace Law
open PySem Z Com
abbrev GE : List Z.Spec := [sp__law_number, sp__law_easier_row]
def fsOf (T : List (Str × Tk)) (i : Int) : Int := match T[i.toNat]? with | some q => q.2.fs | none => 0
def mv (T : List (Str × Tk)) (e : Int) (p : Int × Int) : Int × Int := (p.1, max (fsOf T p.1) (p.2 + e))
def ex_e11 : Ex := (.xtp [(.var 11), (.bi .max2 [(.idx (.idx (.var 7) (.var 11)) (.int 4)), (.bin .Add (.var 21) (.idx (.lst [(.int 1), (.int 5), (.neg (.int 1))]) (.bin .Mod (.bin .FloorDiv (.var 4) (.int 200)) (.int 3))))])])
def ir_e11 : Sm := .ife (.cmp .Eq (.var 10) (.int 11)) [.set (.nm 20) (.comp [11, 21] (.tp [(.nm 11), (.nm 21)]) (.wlk (.slc (.var 9) none (some (.int 1)))) none ex_e11), .set (.nm 9) (.bin .Add (.bi .xtuple [(.var 20)]) (.slc (.var 9) (some (.int 1)) none))] [.set (.nm 5) (.bin .Add (.var 5) (.xtp [(.str "other")]))]
theorem pick3 {x : Int} : ∃ (j : Nat) (e : Int), ixN 3 (x % 3) = some j ∧ [PV.int 1, PV.int 5, PV.int (-1)][j]? = some (.int e) ∧ -1 ≤ e ∧ e ≤ 5 := by
  have q0 := Int.emod_nonneg x (show (3 : Int) ≠ 0 by decide)
  have q1 := Int.emod_lt_of_pos x (show (0 : Int) < 3 by decide)
  obtain ⟨j, w, j1, j2, j3⟩ := pick (xs := [PV.int 1, .int 5, .int (-1)]) (i := x % 3) q0 (by show x % 3 < 3; exact q1)
  simp only [List.mem_cons, List.not_mem_nil, or_false] at j3
  rcases j3 with rfl | rfl | rfl <;> exact ⟨j, _, j1, j2, by decide, by decide⟩
theorem other_ok : OkS (Str.ofString "other") := by unfold OkS; decide +kernel
theorem e11_ok {B C : Bk} {n w : Int} {y0 y1 : Option PV} {R : List Sm} {h : Hep} {D : Dz} (b : Base B) (d : Hder B C)
    (kf : ∀ MS G T W FX y11 y12 y13 y14 y15 y16 y17 y18 y19 y20 y21 h', Form ⟨MS, G, T, W, FX⟩ → Ext h h' → wSs GE R [y0, y1, some (bkV B), some (bkV C), some (.int n), some (.itp (MS.map PV.str)), some (.itp (G.map ndV)), some (.itp (T.map tkV)), some (.itp (W.map wtV)), some (.itp (FX.map fxV)), some (.int w), y11, y12, y13, y14, y15, y16, y17, y18, y19, y20, y21] h' D) :
    wSs GE (ir_e11 :: R) [y0, y1, some (bkV B), some (bkV C), some (.int n), some (.itp (C.MS.map PV.str)), some (.itp (C.G.map ndV)), some (.itp (C.NT.map tkV)), some (.itp (C.W.map wtV)), some (.itp (C.FX.map fxV)), some (.int w), none, none, none, none, none, none, none, none, none, none, none] h D := by
  obtain ⟨a1, a2, a3, a4, a5, a6, a7, a8, a9, a10, a11, a12⟩ := d.f
  by_cases c : w = 11
  · subst c
    have d2 : divOk 200 := divOk_of (by decide) (by decide)
    obtain ⟨j, e, i1, g1, e0, e5⟩ := pick3 (x := n / 200)
    have ei : [PV.int 1, PV.int 5, PV.int (-1)] = [PV.int 1, .int 5, .int (-1)] := rfl
    refine wSs_step ?_; simp_arith [ir_e11]
    refine wSs_step ?_; simp_arith []
    rw [cutL_tk _ _ (show (0 : Int) ≤ 1 by decide), ← List.map_take]
    try rw [show (1 : Int).toNat = 1 from rfl]
    refine wComp_mp fxV (fun p => fxV (mv C.NT e p)) (C.FX.take 1) (fun h2 X2 => trivial) (fun p mp h2 X2 => ?_) (by rw [List.length_take]; show _ ≤ 16777216; omega) fun h2 X2 => ?_
    · refine ⟨_, rfl, fun F hF => ?_⟩
      obtain ⟨p0, p1, p2, p3⟩ := a11 p (List.mem_of_mem_take mp)
      have p1 : p.1 < (C.NT.length : Int) := p1
      have jl : p.1.toNat < C.NT.length := by omega
      have ij : ixN C.NT.length p.1 = some p.1.toNat := ixN_int p0 (by omega)
      have gj : C.NT[p.1.toNat]? = some C.NT[p.1.toNat] := List.getElem?_eq_getElem jl
      have ef : fsOf C.NT p.1 = C.NT[p.1.toNat].2.fs := by unfold fsOf; rw [gj]
      generalize C.NT[p.1.toNat] = q at gj ef
      have uq : tkV q = .itp [.str q.1, .int q.2.l, .str q.2.mc, .itp (q.2.nd.map ndV), .int q.2.fs, dueV q.2.due, .int q.2.wt] := rfl
      have i74 : ixN 7 4 = some 4 := rfl
      simp_arith [ex_e11, ij, gj, uq, i74, d2, new_get, i1, g1]
      have := hF (h2 ++ [Ob.lst [PV.int 1, .int 5, .int (-1)]]) (X2.trans .app)
      unfold mv at this
      rw [ef] at this
      exact this
    · try simp_arith []
      have en := new_get (h := h2) (o := Ob.lst ((C.FX.take 1).map fun p => fxV (mv C.NT e p)))
      have X3 : Ext h2 (h2 ++ [Ob.lst ((C.FX.take 1).map fun p => fxV (mv C.NT e p))]) := .app
      generalize h2 ++ [Ob.lst ((C.FX.take 1).map fun p => fxV (mv C.NT e p))] = h3 at *
      generalize h2.length = r at *
      refine wSs_step ?_; simp_arith [en]
      rw [cutL_dr _ _ (show (0 : Int) ≤ 1 by decide), ← List.map_drop]
      try rw [show (1 : Int).toNat = 1 from rfl]
      have el : ((C.FX.take 1).map fun p => fxV (mv C.NT e p)) ++ (C.FX.drop 1).map fxV = ((C.FX.take 1).map (mv C.NT e) ++ C.FX.drop 1).map fxV := by rw [List.map_append, List.map_map]; rfl
      rw [el]
      have xx := d.x
      refine ⟨by rw [List.length_take, List.length_map, List.length_drop]; omega, ?_⟩
      refine kf C.MS C.G C.NT C.W ((C.FX.take 1).map (mv C.NT e) ++ C.FX.drop 1) _ _ _ _ _ _ _ _ _ _ _ _ ⟨a1, a2, a3, a4, a5, a6, a7, a8, a9, a10, fun p mp => ?_, ?_⟩ (X2.trans X3)
      · rcases List.mem_append.mp mp with mp | mp
        · obtain ⟨q, mq, rfl⟩ := List.mem_map.mp mp
          have mq := List.mem_of_mem_take mq
          obtain ⟨p0, p1, p2, p3⟩ := a11 q mq
          have q30 := xx q mq
          have p1 : q.1 < (C.NT.length : Int) := p1
          have jl : q.1.toNat < C.NT.length := by omega
          have gj : C.NT[q.1.toNat]? = some C.NT[q.1.toNat] := List.getElem?_eq_getElem jl
          have ef : fsOf C.NT q.1 = C.NT[q.1.toNat].2.fs := by unfold fsOf; rw [gj]
          have ff := (a8 _ (List.getElem_mem jl)).2
          have f1 := ff.f1
          have f2 := ff.f2
          refine ⟨p0, p1, ?_, ?_⟩
          · show 0 ≤ max (fsOf C.NT q.1) (q.2 + e); omega
          · show max (fsOf C.NT q.1) (q.2 + e) ≤ 100000; omega
        · exact a11 p (List.mem_of_mem_drop mp)
      · show ((C.FX.take 1).map (mv C.NT e) ++ C.FX.drop 1).length ≤ 9
        rw [List.length_append, List.length_map, List.length_take, List.length_drop]; omega
  · have ml := d.ml
    refine wSs_step ?_; simp_arith [ir_e11, c]
    refine wSs_step ?_; simp_arith []
    have el : C.MS.map PV.str ++ [PV.str (Str.ofString "other")] = (C.MS ++ [Str.ofString "other"]).map PV.str := by rw [List.map_append]; rfl
    refine ⟨by omega, ?_⟩
    rw [el]
    refine kf (C.MS ++ [Str.ofString "other"]) C.G C.NT C.W C.FX _ _ _ _ _ _ _ _ _ _ _ _ ⟨fun s ms => ?_, ?_, a3, a4, a5, a6, a7, a8, a9, a10, a11, a12⟩ .rfl'
    · rcases List.mem_append.mp ms with ms | ms
      · exact a1 s ms
      · rw [List.mem_singleton.mp ms]; exact other_ok
    · show (C.MS ++ [Str.ofString "other"]).length ≤ 6
      rw [List.length_append]; show C.MS.length + 1 ≤ 6; omega
def co_e10 : Ex := .cmp .Eq (.idx (.var 19) (.int 0)) (.int 0)
def ir_e10 : Sm := .ife (.cmp .Eq (.var 10) (.int 10)) [.set (.tp [(.nm 7), (.nm 8), (.nm 9)]) (.xtp [(.slc (.var 7) none (some (.int 1))), (.xtp []), (.bi .xtuple [(.comp [19] (.nm 19) (.wlk (.var 9)) (some co_e10) (.var 19))])])] [ir_e11]
def q0 (p : Int × Int) : Option (Int × Int) := if p.1 = 0 then some p else none
theorem e10_ok {B C : Bk} {n w : Int} {y0 y1 : Option PV} {R : List Sm} {h : Hep} {D : Dz} (b : Base B) (d : Hder B C)
    (kf : ∀ MS G T W FX y11 y12 y13 y14 y15 y16 y17 y18 y19 y20 y21 h', Form ⟨MS, G, T, W, FX⟩ → Ext h h' → wSs GE R [y0, y1, some (bkV B), some (bkV C), some (.int n), some (.itp (MS.map PV.str)), some (.itp (G.map ndV)), some (.itp (T.map tkV)), some (.itp (W.map wtV)), some (.itp (FX.map fxV)), some (.int w), y11, y12, y13, y14, y15, y16, y17, y18, y19, y20, y21] h' D) :
    wSs GE (ir_e10 :: R) [y0, y1, some (bkV B), some (bkV C), some (.int n), some (.itp (C.MS.map PV.str)), some (.itp (C.G.map ndV)), some (.itp (C.NT.map tkV)), some (.itp (C.W.map wtV)), some (.itp (C.FX.map fxV)), some (.int w), none, none, none, none, none, none, none, none, none, none, none] h D := by
  obtain ⟨a1, a2, a3, a4, a5, a6, a7, a8, a9, a10, a11, a12⟩ := d.f
  by_cases c : w = 10
  · subst c
    refine wSs_step ?_; simp_arith [ir_e10]
    refine wSs_step ?_; simp_arith []
    refine wComp_fm fxV q0 fxV C.FX (fun h2 X2 => trivial) (fun p mp h2 X2 => ⟨_, rfl, fun G hG => ?_, fun h3 X3 p' ep G hG => ?_⟩) (by show _ ≤ 16777216; omega) fun h2 X2 => ?_
    · have := hG h2 X2
      unfold fxV
      have i20 : ixN 2 0 = some 0 := rfl
      by_cases e : p.1 = 0
      · unfold q0 at this
        rw [if_pos e] at this
        simp_arith [co_e10, i20, e]
        exact this
      · unfold q0 at this
        rw [if_neg e] at this
        have e' : (p.1 == 0) = false := by simpa using e
        simp_arith [co_e10, i20, e']
        exact this
    · have : p' = p := by
        unfold q0 at ep
        split at ep
        · cases ep; rfl
        · cases ep
      subst this
      exact hG _ X3
    · simp_arith [new_get]
      rw [cutL_tk _ _ (show (0 : Int) ≤ 1 by decide), ← List.map_take]
      try rw [show (1 : Int).toNat = 1 from rfl]
      refine kf C.MS C.G (C.NT.take 1) [] (C.FX.filterMap q0) _ _ _ _ _ _ _ _ _ _ _ _ ⟨a1, a2, a3, a4, a5, ?_, ?_, fun p mp => a8 p (List.mem_of_mem_take mp), (fun w z => nomatch z), Nat.zero_le _, fun p mp => ?_, ?_⟩ (X2.trans .app)
      · show 1 ≤ (C.NT.take 1).length; rw [List.length_take]; omega
      · show (C.NT.take 1).length ≤ 9; rw [List.length_take]; omega
      · obtain ⟨q, mq, eq⟩ := List.mem_filterMap.mp mp
        unfold q0 at eq
        split at eq
        · rename_i e
          cases eq
          obtain ⟨p0, p1, p2, p3⟩ := a11 p mq
          refine ⟨p0, ?_, p2, p3⟩
          show p.1 < ((C.NT.take 1).length : Int)
          rw [List.length_take]; omega
        · cases eq
      · show (C.FX.filterMap q0).length ≤ 9
        have := List.length_filterMap_le q0 C.FX
        omega
  · refine wSs_step ?_; simp_arith [ir_e10, c]
    exact e11_ok (R := []) b d fun MS G T W FX y11 y12 y13 y14 y15 y16 y17 y18 y19 y20 y21 h' f X => kf MS G T W FX y11 y12 y13 y14 y15 y16 y17 y18 y19 y20 y21 h' f X
end Law

/-! k80t: a book made easier: goods, and the rest -/
namespace Law
open PySem Z Com
theorem any_ss (s : Str) : ∀ l : List Str, (l.map PyData.str).any (fun e => PyData.eqv e (.str s)) = decide (s ∈ l)
  | [] => by simp
  | t :: l => by
    rw [List.map_cons, List.any_cons, any_ss s l]
    show ((t == s) || decide (s ∈ l)) = decide (s ∈ t :: l)
    by_cases e : t = s
    · subst e
      rw [beq_self_eq_true, Bool.true_or]
      exact (decide_eq_true List.mem_cons_self).symm
    · rw [show (t == s) = false by simpa using e, Bool.false_or]
      by_cases m : s ∈ l
      · rw [decide_eq_true m, decide_eq_true (List.mem_cons_of_mem _ m)]
      · rw [decide_eq_false m, decide_eq_false fun z => (List.mem_cons.mp z).elim (fun z => e z.symm) m]
theorem inL_ss {h : Hep} {s : Str} {l : List Str} {K : Bool → Prop} (o : OkS s) (ol : ∀ s ∈ l, OkS s) (k : K (decide (s ∈ l))) : inL h (.str s) (l.map PV.str) K := by
  refine ⟨.str s, _, rfl, dat_shaped (h := h) (n := 59) (x := .str s) (by decide) rfl o.1, dat_ss h _ l, lay_ss l ol, by rw [any_ss]; exact k⟩
def qR (g : Str) (q : Str × Tk) : Option (Str × Tk) := if (q.2.nd.lookup g).isSome = true then some q else none
def qG (T : List (Str × Tk)) (p : Str × Int) : Option Str := if (T.filterMap (qR p.1)).isEmpty = true then none else some p.1
def qS (S : List Str) (p : Str × Int) : Option (Str × Int) := if p.1 ∈ S then some p else none
def co_r : Ex := .cmp .In (.var 16) (.bi .dict [(.idx (.var 12) (.int 3))])
def co_w : Ex := .cmp .NotEq (.comp [12] (.nm 12) (.wlk (.var 7)) (some co_r) (.var 12)) (.lst [])
def co_p : Ex := .cmp .In (.idx (.var 19) (.int 0)) (.var 18)
def ex_g : Ex := (.xtp [(.var 16), (.bin .Add (.var 17) (.bin .Mod (.bin .FloorDiv (.var 4) (.int 200)) (.int 2)))])
def ir_e9a : Sm := .set (.nm 6) (.bi .xtuple [(.comp [16, 17] (.tp [(.nm 16), (.nm 17)]) (.wlk (.idx (.var 2) (.int 1))) none ex_g)])
def ir_e9b : Sm := .set (.nm 18) (.comp [16, 17] (.tp [(.nm 16), (.nm 17)]) (.wlk (.var 6)) (some co_w) (.var 16))
def ir_e9c : Sm := .ife (.cmp .Eq (.bin .Mod (.bin .FloorDiv (.var 4) (.int 400)) (.int 2)) (.int 1)) [.set (.nm 6) (.bi .xtuple [(.comp [19] (.nm 19) (.wlk (.var 6)) (some co_p) (.var 19))])] []
def ir_e9 : Sm := .ife (.cmp .Eq (.var 10) (.int 9)) [ir_e9a, ir_e9b, ir_e9c] [ir_e10]
theorem e9_ok {B C : Bk} {n w : Int} {y0 y1 : Option PV} {R : List Sm} {h : Hep} {D : Dz} (b : Base B) (d : Hder B C)
    (kf : ∀ MS G T W FX y11 y12 y13 y14 y15 y16 y17 y18 y19 y20 y21 h', Form ⟨MS, G, T, W, FX⟩ → Ext h h' → wSs GE R [y0, y1, some (bkV B), some (bkV C), some (.int n), some (.itp (MS.map PV.str)), some (.itp (G.map ndV)), some (.itp (T.map tkV)), some (.itp (W.map wtV)), some (.itp (FX.map fxV)), some (.int w), y11, y12, y13, y14, y15, y16, y17, y18, y19, y20, y21] h' D) :
    wSs GE (ir_e9 :: R) [y0, y1, some (bkV B), some (bkV C), some (.int n), some (.itp (C.MS.map PV.str)), some (.itp (C.G.map ndV)), some (.itp (C.NT.map tkV)), some (.itp (C.W.map wtV)), some (.itp (C.FX.map fxV)), some (.int w), none, none, none, none, none, none, none, none, none, none, none] h D := by
  obtain ⟨a1, a2, a3, a4, a5, a6, a7, a8, a9, a10, a11, a12⟩ := d.f
  by_cases c : w = 9
  · subst c
    have d2 : divOk 200 := divOk_of (by decide) (by decide)
    have d4 : divOk 400 := divOk_of (by decide) (by decide)
    have gl := b.g.l
    have i51 : ixN 5 1 = some 1 := rfl
    have x0 := Int.emod_nonneg (n / 200) (show (2 : Int) ≠ 0 by decide)
    have x1 := Int.emod_lt_of_pos (n / 200) (show (0 : Int) < 2 by decide)
    have ub : bkV B = .itp [.itp (B.MS.map PV.str), .itp (B.G.map ndV), .itp (B.NT.map tkV), .itp (B.W.map wtV), .itp (B.FX.map fxV)] := rfl
    rw [ub]
    refine wSs_step ?_; simp_arith [ir_e9]
    refine wSs_step ?_; simp_arith [ir_e9a, i51]
    refine wComp_mp ndV (fun p => ndV (p.1, p.2 + n / 200 % 2)) B.G (fun h2 X2 => trivial) (fun p mp h2 X2 => ⟨_, rfl, fun F hF => by simp_arith [ex_g, d2]; exact hF _ X2⟩) (by show _ ≤ 16777216; omega) fun h2 X2 => ?_
    have eg : B.G.map (fun p => ndV (p.1, p.2 + n / 200 % 2)) = (B.G.map fun p => (p.1, p.2 + n / 200 % 2)).map ndV := by rw [List.map_map]; rfl
    rw [eg]
    have g1 : ∀ p ∈ B.G.map (fun p => (p.1, p.2 + n / 200 % 2)), OkS p.1 ∧ 1 ≤ p.2 ∧ p.2 < 100 := fun p mp => by
      obtain ⟨q, mq, rfl⟩ := List.mem_map.mp mp
      obtain ⟨o, l, u⟩ := b.g.g q mq
      exact ⟨o, by show 1 ≤ q.2 + n / 200 % 2; omega, by show q.2 + n / 200 % 2 < 100; omega⟩
    have g2 : ((B.G.map (fun p => (p.1, p.2 + n / 200 % 2))).map (·.1)).Nodup := by
      have : (B.G.map (fun p => (p.1, p.2 + n / 200 % 2))).map (·.1) = B.G.map (·.1) := by rw [List.map_map]; rfl
      rw [this]; exact b.g.nn
    have g3 : (B.G.map (fun p => (p.1, p.2 + n / 200 % 2))).length ≤ 4 := by rw [List.length_map]; exact gl
    generalize B.G.map (fun p => (p.1, p.2 + n / 200 % 2)) = G at *
    simp_arith [new_get]
    have X3 : Ext h (h2 ++ [Ob.lst (G.map ndV)]) := X2.trans .app
    generalize h2 ++ [Ob.lst (G.map ndV)] = h3 at *
    refine wSs_step ?_; simp_arith [ir_e9b]
    refine wComp_fm ndV (qG C.NT) PV.str G (fun h4 X4 => trivial) (fun p mp h4 X4 => ⟨_, rfl, fun F hF => ?_, fun h5 X5 s es F hF => ?_⟩) (by show _ ≤ 16777216; omega) fun h4 X4 => ?_
    · simp_arith [co_w]
      refine wComp_fm tkV (qR p.1) tkV C.NT (fun h5 X5 => trivial) (fun q mq h5 X5 => ⟨_, rfl, fun F2 hF2 => ?_, fun h6 X6 q' eq F2 hF2 => ?_⟩) (by show _ ≤ 16777216; omega) fun h5 X5 => ?_
      · have uq : tkV q = .itp [.str q.1, .int q.2.l, .str q.2.mc, .itp (q.2.nd.map ndV), .int q.2.fs, dueV q.2.due, .int q.2.wt] := rfl
        have i73 : ixN 7 3 = some 3 := rfl
        have kg : keyOf (.str p.1) = some (.one (.inr p.1)) := rfl
        rw [uq]
        simp_arith [co_r, i73]
        refine ⟨_, pairs_nd _, ?_⟩
        rw [sD_is (a8 q mq).2.nn]
        simp_arith [new_get, kg, sD_kind, sD_get]
        have := hF2 (h5 ++ [Ob.dic (sD q.2.nd)]) (X5.trans .app)
        unfold qR at this
        cases lk : q.2.nd.lookup p.1 with
        | none => rw [lk] at this; exact this
        | some v => rw [lk] at this; exact this
      · have : q' = q := by
          unfold qR at eq
          split at eq
          · cases eq; rfl
          · cases eq
        subst this
        exact hF2 _ X6
      · try simp_arith []
        refine eqW_emp (f := tkV) (l := C.NT.filterMap (qR p.1)) (app_get new_get) new_get (fun x mx => ?_) ?_
        · obtain ⟨q, mq, eq⟩ := List.mem_filterMap.mp mx
          have : x = q := by
            unfold qR at eq
            split at eq
            · cases eq; rfl
            · cases eq
          subst this
          obtain ⟨dd, nc⟩ := nice_tk (a8 x mq).1 (a8 x mq).2
          exact ⟨dd, nc.e _ _ (by decide), nc.c⟩
        · have := hF (h5 ++ [Ob.lst ((C.NT.filterMap (qR p.1)).map tkV)] ++ [Ob.lst []]) (X4.trans (X5.trans (Ext.app.trans .app)))
          unfold qG at this
          cases e : (C.NT.filterMap (qR p.1)).isEmpty with
          | true => rw [e] at this; exact this
          | false => rw [e] at this; exact this
    · have : s = p.1 := by
        unfold qG at es
        split at es
        · cases es
        · cases es; rfl
      subst this
      exact hF _ X5
    · try simp_arith []
      have hS : ∀ s ∈ G.filterMap (qG C.NT), OkS s := fun s ms => by
        obtain ⟨q, mq, eq⟩ := List.mem_filterMap.mp ms
        unfold qG at eq
        split at eq
        · cases eq
        · cases eq; exact (g1 q mq).1
      generalize G.filterMap (qG C.NT) = S at *
      have en := new_get (h := h4) (o := Ob.lst (S.map PV.str))
      have X5 : Ext h (h4 ++ [Ob.lst (S.map PV.str)]) := X3.trans (X4.trans .app)
      generalize h4 ++ [Ob.lst (S.map PV.str)] = h5 at *
      generalize h4.length = r at *
      by_cases c2 : n / 400 % 2 = 1
      · refine wSs_step ?_; simp_arith [ir_e9c, d4, c2]
        refine wSs_step ?_; simp_arith []
        refine wComp_fm ndV (qS S) ndV G (fun h6 X6 => trivial) (fun p mp h6 X6 => ⟨_, rfl, fun F hF => ?_, fun h7 X7 p' ep F hF => ?_⟩) (by show _ ≤ 16777216; omega) fun h6 X6 => ?_
        · have i20 : ixN 2 0 = some 0 := rfl
          have := hF h6 X6
          have en6 := X6 _ _ en
          unfold ndV
          simp_arith [co_p, i20, en6]
          refine inL_ss (g1 p mp).1 hS ?_
          unfold qS at this
          by_cases m : p.1 ∈ S
          · rw [if_pos m] at this
            simp_arith [m]
            exact this
          · rw [if_neg m] at this
            simp_arith [m]
            exact this
        · have : p' = p := by
            unfold qS at ep
            split at ep
            · cases ep; rfl
            · cases ep
          subst this
          exact hF _ X7
        · simp_arith [new_get]
          have sub : ((G.filterMap (qS S)).map (·.1)).Sublist (G.map (·.1)) := by
            have : ∀ G : List (Str × Int), (G.filterMap (qS S)).Sublist G := fun G => by
              induction G with
              | nil => exact .slnil
              | cons x G ih =>
                by_cases m : x.1 ∈ S
                · rw [List.filterMap_cons_some (b := x) (by unfold qS; rw [if_pos m])]
                  exact ih.cons₂ x
                · rw [List.filterMap_cons_none (by unfold qS; rw [if_neg m])]
                  exact ih.cons x
            exact (this G).map _
          refine kf C.MS (G.filterMap (qS S)) C.NT C.W C.FX _ _ _ _ _ _ _ _ _ _ _ _ ⟨a1, a2, sub.nodup g2, fun p mp => ?_, ?_, a6, a7, a8, a9, a10, a11, a12⟩ (X5.trans (X6.trans .app))
          · obtain ⟨q, mq, eq⟩ := List.mem_filterMap.mp mp
            have : p = q := by
              unfold qS at eq
              split at eq
              · cases eq; rfl
              · cases eq
            subst this
            exact g1 p mq
          · show (G.filterMap (qS S)).length ≤ 8
            have := List.length_filterMap_le (qS S) G
            omega
      · refine wSs_step ?_; simp_arith [ir_e9c, d4, c2]
        exact kf C.MS G C.NT C.W C.FX _ _ _ _ _ _ _ _ _ _ _ _ ⟨a1, a2, g2, g1, by show G.length ≤ 8; omega, a6, a7, a8, a9, a10, a11, a12⟩ X5
  · refine wSs_step ?_; simp_arith [ir_e9, c]
    exact e10_ok (R := []) b d fun MS G T W FX y11 y12 y13 y14 y15 y16 y17 y18 y19 y20 y21 h' f X => kf MS G T W FX y11 y12 y13 y14 y15 y16 y17 y18 y19 y20 y21 h' f X
end Law

/-! k80u: a book made easier, whole -/
namespace Law
open PySem Z Com
def ir_e8 : Sm := .ife (.cmp .Eq (.var 10) (.int 8)) [.set (.nm 9) (.slc (.var 9) (some (.int 1)) none)] [ir_e9]
theorem e8_ok {B C : Bk} {n w : Int} {y0 y1 : Option PV} {R : List Sm} {h : Hep} {D : Dz} (b : Base B) (d : Hder B C)
    (kf : ∀ MS G T W FX y11 y12 y13 y14 y15 y16 y17 y18 y19 y20 y21 h', Form ⟨MS, G, T, W, FX⟩ → Ext h h' → wSs GE R [y0, y1, some (bkV B), some (bkV C), some (.int n), some (.itp (MS.map PV.str)), some (.itp (G.map ndV)), some (.itp (T.map tkV)), some (.itp (W.map wtV)), some (.itp (FX.map fxV)), some (.int w), y11, y12, y13, y14, y15, y16, y17, y18, y19, y20, y21] h' D) :
    wSs GE (ir_e8 :: R) [y0, y1, some (bkV B), some (bkV C), some (.int n), some (.itp (C.MS.map PV.str)), some (.itp (C.G.map ndV)), some (.itp (C.NT.map tkV)), some (.itp (C.W.map wtV)), some (.itp (C.FX.map fxV)), some (.int w), none, none, none, none, none, none, none, none, none, none, none] h D := by
  obtain ⟨a1, a2, a3, a4, a5, a6, a7, a8, a9, a10, a11, a12⟩ := d.f
  by_cases c : w = 8
  · subst c
    refine wSs_step ?_; simp_arith [ir_e8]
    refine wSs_step ?_; simp_arith []
    rw [cutL_dr _ _ (show (0 : Int) ≤ 1 by decide), ← List.map_drop]
    refine kf C.MS C.G C.NT C.W (C.FX.drop (1 : Int).toNat) _ _ _ _ _ _ _ _ _ _ _ _ ⟨a1, a2, a3, a4, a5, a6, a7, a8, a9, a10, fun p mp => a11 p (List.mem_of_mem_drop mp), ?_⟩ .rfl'
    show (C.FX.drop (1 : Int).toNat).length ≤ 9
    rw [List.length_drop]; omega
  · refine wSs_step ?_; simp_arith [ir_e8, c]
    exact e9_ok (R := []) b d fun MS G T W FX y11 y12 y13 y14 y15 y16 y17 y18 y19 y20 y21 h' f X => kf MS G T W FX y11 y12 y13 y14 y15 y16 y17 y18 y19 y20 y21 h' f X
def ir_e7 : Sm := .ife (.cmp .Eq (.var 10) (.int 7)) [.set (.nm 8) (.slc (.var 8) (some (.int 1)) none)] [ir_e8]
theorem e7_ok {B C : Bk} {n w : Int} {y0 y1 : Option PV} {R : List Sm} {h : Hep} {D : Dz} (b : Base B) (d : Hder B C)
    (kf : ∀ MS G T W FX y11 y12 y13 y14 y15 y16 y17 y18 y19 y20 y21 h', Form ⟨MS, G, T, W, FX⟩ → Ext h h' → wSs GE R [y0, y1, some (bkV B), some (bkV C), some (.int n), some (.itp (MS.map PV.str)), some (.itp (G.map ndV)), some (.itp (T.map tkV)), some (.itp (W.map wtV)), some (.itp (FX.map fxV)), some (.int w), y11, y12, y13, y14, y15, y16, y17, y18, y19, y20, y21] h' D) :
    wSs GE (ir_e7 :: R) [y0, y1, some (bkV B), some (bkV C), some (.int n), some (.itp (C.MS.map PV.str)), some (.itp (C.G.map ndV)), some (.itp (C.NT.map tkV)), some (.itp (C.W.map wtV)), some (.itp (C.FX.map fxV)), some (.int w), none, none, none, none, none, none, none, none, none, none, none] h D := by
  obtain ⟨a1, a2, a3, a4, a5, a6, a7, a8, a9, a10, a11, a12⟩ := d.f
  by_cases c : w = 7
  · subst c
    refine wSs_step ?_; simp_arith [ir_e7]
    refine wSs_step ?_; simp_arith []
    rw [cutL_dr _ _ (show (0 : Int) ≤ 1 by decide), ← List.map_drop]
    refine kf C.MS C.G C.NT (C.W.drop (1 : Int).toNat) C.FX _ _ _ _ _ _ _ _ _ _ _ _ ⟨a1, a2, a3, a4, a5, a6, a7, a8, fun p mp => a9 p (List.mem_of_mem_drop mp), ?_, a11, a12⟩ .rfl'
    show (C.W.drop (1 : Int).toNat).length ≤ 100
    rw [List.length_drop]; omega
  · refine wSs_step ?_; simp_arith [ir_e7, c]
    exact e8_ok (R := []) b d fun MS G T W FX y11 y12 y13 y14 y15 y16 y17 y18 y19 y20 y21 h' f X => kf MS G T W FX y11 y12 y13 y14 y15 y16 y17 y18 y19 y20 y21 h' f X
def ex_e6 : Ex := (.xtp [(.var 13), (.var 14), (.bi .max2 [(.int 0), (.bin .Sub (.var 15) (.int 1))])])
def ir_e6 : Sm := .ife (.cmp .Eq (.var 10) (.int 6)) [.set (.nm 8) (.bi .xtuple [(.comp [13, 14, 15] (.tp [(.nm 13), (.nm 14), (.nm 15)]) (.wlk (.idx (.var 2) (.int 3))) none ex_e6)])] [ir_e7]
theorem e6_ok {B C : Bk} {n w : Int} {y0 y1 : Option PV} {R : List Sm} {h : Hep} {D : Dz} (b : Base B) (d : Hder B C)
    (kf : ∀ MS G T W FX y11 y12 y13 y14 y15 y16 y17 y18 y19 y20 y21 h', Form ⟨MS, G, T, W, FX⟩ → Ext h h' → wSs GE R [y0, y1, some (bkV B), some (bkV C), some (.int n), some (.itp (MS.map PV.str)), some (.itp (G.map ndV)), some (.itp (T.map tkV)), some (.itp (W.map wtV)), some (.itp (FX.map fxV)), some (.int w), y11, y12, y13, y14, y15, y16, y17, y18, y19, y20, y21] h' D) :
    wSs GE (ir_e6 :: R) [y0, y1, some (bkV B), some (bkV C), some (.int n), some (.itp (C.MS.map PV.str)), some (.itp (C.G.map ndV)), some (.itp (C.NT.map tkV)), some (.itp (C.W.map wtV)), some (.itp (C.FX.map fxV)), some (.int w), none, none, none, none, none, none, none, none, none, none, none] h D := by
  obtain ⟨a1, a2, a3, a4, a5, a6, a7, a8, a9, a10, a11, a12⟩ := d.f
  by_cases c : w = 6
  · subst c
    have wl := b.wl
    have i53 : ixN 5 3 = some 3 := rfl
    have ub : bkV B = .itp [.itp (B.MS.map PV.str), .itp (B.G.map ndV), .itp (B.NT.map tkV), .itp (B.W.map wtV), .itp (B.FX.map fxV)] := rfl
    rw [ub]
    refine wSs_step ?_; simp_arith [ir_e6]
    refine wSs_step ?_; simp_arith [i53]
    refine wComp_mp wtV (fun p => wtV (p.1, p.2.1, max 0 (p.2.2 - 1))) B.W (fun h2 X2 => trivial) (fun p mp h2 X2 => ⟨_, rfl, fun F hF => by simp_arith [ex_e6]; exact hF _ X2⟩) (by show _ ≤ 16777216; omega) fun h2 X2 => ?_
    have eg : B.W.map (fun p => wtV (p.1, p.2.1, max 0 (p.2.2 - 1))) = (B.W.map fun p => (p.1, p.2.1, max 0 (p.2.2 - 1))).map wtV := by rw [List.map_map]; rfl
    rw [eg]
    simp_arith [new_get]
    refine kf C.MS C.G C.NT (B.W.map fun p => (p.1, p.2.1, max 0 (p.2.2 - 1))) C.FX _ _ _ _ _ _ _ _ _ _ _ _ ⟨a1, a2, a3, a4, a5, a6, a7, a8, fun p mp => ?_, ?_, a11, a12⟩ (X2.trans .app)
    · obtain ⟨q, mq, rfl⟩ := List.mem_map.mp mp
      obtain ⟨p1, p2, p3, p4, p5, p6⟩ := b.w q mq
      exact ⟨p1, by show q.1 ≤ 10000; omega, p3, by show q.2.1 ≤ 10000; omega, by show 0 ≤ max 0 (q.2.2 - 1); omega, by show max 0 (q.2.2 - 1) ≤ 10000; omega⟩
    · show (B.W.map _).length ≤ 100
      rw [List.length_map]; omega
  · refine wSs_step ?_; simp_arith [ir_e6, c]
    exact e7_ok (R := []) b d fun MS G T W FX y11 y12 y13 y14 y15 y16 y17 y18 y19 y20 y21 h' f X => kf MS G T W FX y11 y12 y13 y14 y15 y16 y17 y18 y19 y20 y21 h' f X
def ir_e0 : Sm := .ife (.cmp .Lt (.var 10) (.int 6)) [.set (.nm 11) (.bin .Mod (.bin .FloorDiv (.var 4) (.int 12)) (.bi .len [(.idx (.var 2) (.int 2))])), .set (.nm 12) (.call 1 [(.var 4), (.var 10), (.idx (.var 7) (.var 11)), (.idx (.idx (.var 2) (.int 2)) (.var 11))]), .set (.nm 7) (.bin .Add (.bin .Add (.slc (.var 7) none (some (.var 11))) (.xtp [(.var 12)])) (.slc (.var 7) (some (.bin .Add (.var 11) (.int 1))) none))] [ir_e6]
theorem e0_ok {B C : Bk} {n w : Int} {y0 y1 : Option PV} {R : List Sm} {h : Hep} {D : Dz} (b : Base B) (d : Hder B C) (n0 : 0 ≤ n)
    (kf : ∀ MS G T W FX y11 y12 y13 y14 y15 y16 y17 y18 y19 y20 y21 h', Form ⟨MS, G, T, W, FX⟩ → Ext h h' → wSs GE R [y0, y1, some (bkV B), some (bkV C), some (.int n), some (.itp (MS.map PV.str)), some (.itp (G.map ndV)), some (.itp (T.map tkV)), some (.itp (W.map wtV)), some (.itp (FX.map fxV)), some (.int w), y11, y12, y13, y14, y15, y16, y17, y18, y19, y20, y21] h' D) :
    wSs GE (ir_e0 :: R) [y0, y1, some (bkV B), some (bkV C), some (.int n), some (.itp (C.MS.map PV.str)), some (.itp (C.G.map ndV)), some (.itp (C.NT.map tkV)), some (.itp (C.W.map wtV)), some (.itp (C.FX.map fxV)), some (.int w), none, none, none, none, none, none, none, none, none, none, none] h D := by
  obtain ⟨a1, a2, a3, a4, a5, a6, a7, a8, a9, a10, a11, a12⟩ := d.f
  by_cases c : w < 6
  · have n1 := b.n1
    have n2 := b.n2
    have le := d.h.n
    have i52 : ixN 5 2 = some 2 := rfl
    have d12 : divOk 12 := divOk_of (by decide) (by decide)
    have tp : (0 : Int) < B.NT.length := by omega
    have dt : divOk (B.NT.length : Int) := divOk_of tp (by omega)
    have x0 := Int.emod_nonneg (n / 12) (show (B.NT.length : Int) ≠ 0 by omega)
    have x1 := Int.emod_lt_of_pos (n / 12) tp
    have ub : bkV B = .itp [.itp (B.MS.map PV.str), .itp (B.G.map ndV), .itp (B.NT.map tkV), .itp (B.W.map wtV), .itp (B.FX.map fxV)] := rfl
    rw [ub]
    refine wSs_step ?_; simp_arith [ir_e0, c]
    refine wSs_step ?_; simp_arith [i52, d12, dt, tp]
    generalize n / 12 % (B.NT.length : Int) = t at *
    have jl : t.toNat < C.NT.length := by omega
    have jb : t.toNat < B.NT.length := by omega
    have ij : ixN C.NT.length t = some t.toNat := ixN_int x0 (by omega)
    have gj : C.NT[t.toNat]? = some C.NT[t.toNat] := List.getElem?_eq_getElem jl
    have pm : C.NT[t.toNat] ∈ C.NT := List.getElem_mem jl
    generalize C.NT[t.toNat] = p at gj pm
    have ijb : ixN B.NT.length t = some t.toNat := ixN_int x0 (by omega)
    have gjb : B.NT[t.toNat]? = some B.NT[t.toNat] := List.getElem?_eq_getElem jb
    have qm : B.NT[t.toNat] ∈ B.NT := List.getElem_mem jb
    generalize B.NT[t.toNat] = q at gjb qm
    obtain ⟨op, fp⟩ := a8 p pm
    have rq := b.t q qm
    refine wSs_step ?_; simp_arith [ij, gj, ijb, gjb, i52]
    refine ⟨n, w, p, q, rfl, n0, fp, ⟨rq.t.f, rq.t.du⟩, fun tk h2 ft X2 => ?_⟩
    try simp_arith []
    refine wSs_step ?_; simp_arith []
    rw [cutL_tk _ _ x0, cutL_dr _ _ (show (0 : Int) ≤ t + 1 by omega), ← List.map_drop, ← List.map_take]
    have el : (C.NT.take t.toNat).map tkV ++ [tkV (p.1, tk)] ++ (C.NT.drop (t + 1).toNat).map tkV = (C.NT.take t.toNat ++ [(p.1, tk)] ++ C.NT.drop (t + 1).toNat).map tkV := by rw [List.map_append, List.map_append]; rfl
    have lt : (C.NT.take t.toNat ++ [(p.1, tk)] ++ C.NT.drop (t + 1).toNat).length = C.NT.length := by
      rw [List.length_append, List.length_append, List.length_singleton, List.length_take, List.length_drop]; omega
    refine ⟨by rw [List.length_map, List.length_take]; omega, by rw [List.length_append, List.length_map, List.length_map, List.length_take, List.length_drop, List.length_singleton]; omega, ?_⟩
    rw [el]
    refine kf C.MS C.G (C.NT.take t.toNat ++ [(p.1, tk)] ++ C.NT.drop (t + 1).toNat) C.W C.FX _ _ _ _ _ _ _ _ _ _ _ _ ⟨a1, a2, a3, a4, a5, by show 1 ≤ (C.NT.take t.toNat ++ [(p.1, tk)] ++ C.NT.drop (t + 1).toNat).length; omega, by show (C.NT.take t.toNat ++ [(p.1, tk)] ++ C.NT.drop (t + 1).toNat).length ≤ 9; omega, fun x mx => ?_, a9, a10, fun x mx => ?_, a12⟩ X2
    · rcases List.mem_append.mp mx with mx | mx
      · rcases List.mem_append.mp mx with mx | mx
        · exact a8 x (List.mem_of_mem_take mx)
        · rw [List.mem_singleton.mp mx]; exact ⟨op, ft⟩
      · exact a8 x (List.mem_of_mem_drop mx)
    · obtain ⟨p1, p2, p3, p4⟩ := a11 x mx
      exact ⟨p1, by show x.1 < ((C.NT.take t.toNat ++ [(p.1, tk)] ++ C.NT.drop (t + 1).toNat).length : Int); rw [lt]; exact p2, p3, p4⟩
  · refine wSs_step ?_; simp_arith [ir_e0, c]
    exact e6_ok (R := []) b d fun MS G T W FX y11 y12 y13 y14 y15 y16 y17 y18 y19 y20 y21 h' f X => kf MS G T W FX y11 y12 y13 y14 y15 y16 y17 y18 y19 y20 y21 h' f X
def sp__law_easier : Z.Spec := fun args h F _ => ∃ (ns : List Int) (k : Int) (B C : Bk), args = [.ils (ns.map PV.int), .int k, bkV B, bkV C] ∧ ns.length ≤ 63 ∧ 0 ≤ k ∧ k ≤ 10 ^ 9 ∧ Base B ∧ Hder B C ∧ ∀ E h', Form E → Ext h h' → F (bkV E) h'
theorem mt__law_easier : Meets GE 22 4 ir__law_easier sp__law_easier := by
  rintro args h F E ⟨ns, k, B, C, rfl, l, k0, k1, b, d, kf⟩
  refine ⟨rfl, ?_⟩
  rw [show ir__law_easier = .set (.nm 4) (.call 0 [(.var 0), (.var 1)]) :: .set (.tp [(.nm 5), (.nm 6), (.nm 7), (.nm 8), (.nm 9)]) (.var 3) :: .set (.nm 10) (.bin .Mod (.var 4) (.int 13)) :: ir_e0 :: [.ret (.xtp [(.var 5), (.var 6), (.var 7), (.var 8), (.var 9)])] from rfl]
  show wSs _ _ [some _, some _, some _, some _, none, none, none, none, none, none, none, none, none, none, none, none, none, none, none, none, none, none] h _
  refine wSs_step ?_; simp_arith []
  refine numb_M l k0 k1 fun n n0 n1 => ?_
  try simp_arith []
  have uc : bkV C = .itp [.itp (C.MS.map PV.str), .itp (C.G.map ndV), .itp (C.NT.map tkV), .itp (C.W.map wtV), .itp (C.FX.map fxV)] := rfl
  rw [uc]
  refine wSs_step ?_; simp_arith []
  refine wSs_step ?_; simp_arith []
  rw [← uc]
  refine e0_ok b d n0 fun MS G T W FX y11 y12 y13 y14 y15 y16 y17 y18 y19 y20 y21 h' f X => ?_
  refine wSs_step ?_; simp_arith []
  exact kf ⟨MS, G, T, W, FX⟩ h' f X
end Law

/-! k80v: the law -/
namespace Law
open PySem Z Com
abbrev G80 : List Z.Spec := [sp__law_book, sp__law_number, sp__law_harder, sp__law_easier, sp_is_harder, sp__law_due, noS]
theorem hard_self (B : Bk) : Hard B B := by
  refine ⟨rfl, Nat.le_refl _, fun p m => ⟨p.2, m, by omega⟩, fun i a b ea eb => ?_, fun w m => ⟨w, m, rfl, rfl, by omega⟩, fun p m => m⟩
  rw [ea] at eb
  cases eb
  exact ⟨by omega, rfl, by omega, fun d e => ⟨d, e, by omega⟩, fun w z => by omega, fun p m => ⟨p.2, m, by omega⟩⟩
def ir_lb : List Sm := [.ife (.cmp .NotEq (.rep (.call 4 [(.var 6), (.var 7)])) (.rep (.call 5 [(.var 6), (.var 7)]))) [.ret (.bl false)] []]
theorem lb_ok {P Q : Bk} {y0 y1 y2 y3 y4 y5 : Option PV} {h : Hep} {D : Dz} (fP : Form P) (fQ : Form Q) (k : ∀ h', Ext h h' → D.nx [y0, y1, y2, y3, y4, y5, some (bkV P), some (bkV Q)] h') :
    wSs G80 ir_lb [y0, y1, y2, y3, y4, y5, some (bkV P), some (bkV Q)] h D := by
  unfold ir_lb
  refine wSs_step ?_
  simp_arith []
  refine ⟨P, Q, rfl, fP, fQ, fun h1 X1 => ?_⟩
  generalize htf : tf (Hard P Q) = b
  have s1 : (PyData.shown (.bool b)).length ≤ 16777216 := by cases b <;> decide
  refine ⟨.bool b, rfl, by cases b <;> decide, rfl, s1, ?_⟩
  refine ⟨P, Q, rfl, fP, fQ, fun h2 X2 => ?_⟩
  rw [htf]
  refine ⟨.bool b, rfl, by cases b <;> decide, rfl, s1, eqW_txt ?_⟩
  rw [beq_self_eq_true]
  exact k _ (X1.trans X2)
def ir_lw : List Sm := [.set (.nm 2) (.call 0 [(.var 0), (.bin .Mult (.int 100) (.var 1)), (.bin .Add (.int 2) (.bin .Mod (.call 1 [(.var 0), (.bin .Mult (.int 7) (.var 1))]) (.int 4)))]), .set (.nm 3) (.call 2 [(.var 0), (.bin .Add (.bin .Mult (.int 100) (.var 1)) (.int 70)), (.var 2)]), .set (.nm 4) (.call 3 [(.var 0), (.bin .Add (.bin .Mult (.int 100) (.var 1)) (.int 95)), (.var 2), (.var 3)]), .set (.nm 5) (.rep (.lst [(.var 2), (.var 3), (.var 4)])), .ife (.or (.cmp .IsNot (.call 4 [(.var 2), (.var 3)]) (.bl true)) (.cmp .IsNot (.call 4 [(.var 2), (.var 2)]) (.bl true))) [.ret (.bl false)] [], .for_ (.tp [(.nm 6), (.nm 7)]) (.wlk (.xtp [(.xtp [(.var 2), (.var 4)]), (.xtp [(.var 4), (.var 2)]), (.xtp [(.var 3), (.var 2)]), (.xtp [(.var 3), (.var 4)]), (.xtp [(.var 4), (.var 3)])])) ir_lb, .ife (.cmp .NotEq (.rep (.lst [(.var 2), (.var 3), (.var 4)])) (.var 5)) [.ret (.bl false)] []]
theorem lw_ok {ns : List Int} {i : Nat} {y2 y3 y4 y5 y6 y7 : Option PV} {h : Hep} {D : Dz} (l : ns.length ≤ 63) (i1 : i ≤ 31) (k : ∀ y2 y3 y4 y5 y6 y7 h', D.nx [some (.ils (ns.map PV.int)), some (.int (i : Int)), y2, y3, y4, y5, y6, y7] h') :
    wSs G80 ir_lw [some (.ils (ns.map PV.int)), some (.int (i : Int)), y2, y3, y4, y5, y6, y7] h D := by
  unfold ir_lw
  have m1 : mulOk 100 (i : Int) := mulOk_l (by decide) (by decide)
  have m7 : mulOk 7 (i : Int) := mulOk_l (by decide) (by decide)
  refine wSs_step ?_; simp_arith [m1, m7]
  refine numb_M l (by omega) (by omega) fun n n0 n1 => ?_
  try simp_arith []
  have q0 := Int.emod_nonneg n (show (4 : Int) ≠ 0 by decide)
  have q1 := Int.emod_lt_of_pos n (show (0 : Int) < 4 by decide)
  refine ⟨ns, 100 * (i : Int), (2 + n % 4).toNat, by rw [show (((2 + n % 4).toNat : Nat) : Int) = 2 + n % 4 by omega], l, by omega, by omega, by omega, by omega, fun B h1 b X1 => ?_⟩
  try simp_arith []
  refine wSs_step ?_; simp_arith [m1]
  refine ⟨ns, 100 * (i : Int) + 70, B, rfl, l, by omega, by omega, b, fun C h2 d X2 => ?_⟩
  try simp_arith []
  refine wSs_step ?_; simp_arith [m1]
  refine ⟨ns, 100 * (i : Int) + 95, B, C, rfl, l, by omega, by omega, b, d, fun E h3 fE X3 => ?_⟩
  try simp_arith []
  have fB := b.form
  have fC := d.f
  obtain ⟨dt, et, s1, s2, s3⟩ := nice_three fB fC fE
  refine wSs_step ?_; simp_arith []
  refine ⟨dt, et _ _ new_get, s1, s2, s3, ?_⟩
  generalize h3 ++ [Ob.lst [bkV B, bkV C, bkV E]] = h4
  refine wSs_step ?_
  simp_arith []
  refine ⟨B, C, rfl, fB, fC, fun h5 X5 => ?_⟩
  rw [tf_t d.h]
  simp_arith []
  refine ⟨B, B, rfl, fB, fB, fun h6 X6 => ?_⟩
  rw [tf_t (hard_self B)]
  simp_arith []
  refine wSs_step ?_; simp_arith []
  refine lb_ok fB fE fun h7 _ => ?_
  refine lb_ok fE fB fun h8 _ => ?_
  refine lb_ok fC fB fun h9 _ => ?_
  refine lb_ok fC fE fun h10 _ => ?_
  refine lb_ok fE fC fun h11 _ => ?_
  show wSs G80 [.ife (.cmp .NotEq (.rep (.lst [(.var 2), (.var 3), (.var 4)])) (.var 5)) [.ret (.bl false)] []] [some (.ils (ns.map PV.int)), some (.int (i : Int)), some (bkV B), some (bkV C), some (bkV E), some (.str dt.shown), some (bkV E), some (bkV C)] h11 D
  refine wSs_step ?_
  simp_arith []
  refine ⟨dt, et _ _ new_get, s1, s2, s3, eqW_txt ?_⟩
  rw [beq_self_eq_true]
  exact k _ _ _ _ _ _ _
theorem mt_law : Meets G80 8 1 ir_law (spLaw 63) := by
  rintro args h F E ⟨ns, rfl, rfl, l, kf⟩
  refine ⟨rfl, ?_⟩
  rw [show ir_law = [.for_ (.nm 1) (.rng1 (.bin .Add (.int 1) (.bi .min2 [(.int 30), (.bi .len [(.var 0)])]))) ir_lw, .ret (.bl true)] from rfl]
  show wSs _ _ [some _, none, none, none, none, none, none, none] [] _
  refine wSs_step ?_; simp_arith []
  refine ⟨by omega, by omega, ?_⟩
  refine wFor_num (fun i σ h' => ∃ y1 y2 y3 y4 y5 y6 y7, σ = [some (.ils (ns.map PV.int)), y1, y2, y3, y4, y5, y6, y7]) _ 0 _ _ ⟨_, _, _, _, _, _, _, rfl⟩ ?_ ?_
  · rintro i σ h' _ i2 ⟨y1, y2, y3, y4, y5, y6, y7, rfl⟩
    refine ⟨_, rfl, fun K hK => ?_⟩
    exact lw_ok l (by omega) fun y2 y3 y4 y5 y6 y7 h2 => hK _ _ ⟨_, _, _, _, _, _, _, rfl⟩
  · rintro σ h' ⟨y1, y2, y3, y4, y5, y6, y7, rfl⟩
    refine wSs_step ?_; simp_arith []
    exact kf _
end Law

namespace Law
open PySem L2 Z
section
variable {P : Program} {w : World} {K : PySem.W.Frag} {mg : Str → Option Value} {base : Heap}
structure Txt (K : PySem.W.Frag) (mg : Str → Option Value) : Prop where
  bl : ∀ n ∈ blts, mg n = none
  cn : ∀ p ∈ cs, ∃ (u : Value) (t : V), mg p.1 = some u ∧ RelV t u ∧ ∀ (ρ : List Addr) (H : Hp), Rep K ρ H p.2 t
theorem fn_has_task {f : Addr} {fd : FuncData} (T : Txt K mg) (F : Fun K "has_task" "has_task" s_has_task f fd) (hm : mg "has_task" = some (.ref f)) (kp : PySem.W.keepIn K (.ref f) = true) (b : Binds K fd ["one", "other"] []) : FnR P w K mg base 1 "has_task" sp_has_task :=
  fnr_of hm kp (def_ok F sc_has_task lk_has_task T.bl (fun i g e => by
    match i, e with
    | i + 0, e => cases e) T.cn mt_has_task) b
theorem fn_has_waits {f : Addr} {fd : FuncData} (T : Txt K mg) (F : Fun K "has_waits" "has_waits" s_has_waits f fd) (hm : mg "has_waits" = some (.ref f)) (kp : PySem.W.keepIn K (.ref f) = true) (b : Binds K fd ["one", "other"] []) : FnR P w K mg base 1 "has_waits" sp_has_waits :=
  fnr_of hm kp (def_ok F sc_has_waits lk_has_waits T.bl (fun i g e => by
    match i, e with
    | i + 0, e => cases e) T.cn mt_has_waits) b
theorem fn_is_harder {f : Addr} {fd : FuncData} (T : Txt K mg) (F : Fun K "is_harder" "is_harder" s_is_harder f fd) (hm : mg "is_harder" = some (.ref f)) (kp : PySem.W.keepIn K (.ref f) = true) (b : Binds K fd ["book", "other"] []) (h0 : FnR P w K mg base 1 "has_task" sp_has_task) (h1 : FnR P w K mg base 1 "has_waits" sp_has_waits) : FnR P w K mg base 2 "is_harder" sp_is_harder :=
  fnr_of hm kp (def_ok F sc_is_harder lk_is_harder T.bl (fun i g e => by
    match i, e with
    | 0, e => cases e; exact ⟨_, rfl, h0⟩
    | 1, e => cases e; exact ⟨_, rfl, h1⟩
    | i + 2, e => cases e) T.cn mt_is_harder) b
theorem fn__law_number {f : Addr} {fd : FuncData} (T : Txt K mg) (F : Fun K "_law_number" "_law_number" s__law_number f fd) (hm : mg "_law_number" = some (.ref f)) (kp : PySem.W.keepIn K (.ref f) = true) (b : Binds K fd ["_law_script", "_law_k"] []) : FnR P w K mg base 1 "_law_number" sp__law_number :=
  fnr_of hm kp (def_ok F sc__law_number lk__law_number T.bl (fun i g e => by
    match i, e with
    | i + 0, e => cases e) T.cn mt__law_number) b
theorem fn__law_task {f : Addr} {fd : FuncData} (T : Txt K mg) (F : Fun K "_law_task" "_law_task" s__law_task f fd) (hm : mg "_law_task" = some (.ref f)) (kp : PySem.W.keepIn K (.ref f) = true) (b : Binds K fd ["_law_script", "_law_k", "_law_machines", "_law_goods"] []) (h0 : FnR P w K mg base 1 "_law_number" sp__law_number) : FnR P w K mg base 2 "_law_task" sp__law_task :=
  fnr_of hm kp (def_ok F sc__law_task lk__law_task T.bl (fun i g e => by
    match i, e with
    | 0, e => cases e; exact ⟨_, rfl, h0⟩
    | i + 1, e => cases e) T.cn mt__law_task) b
theorem fn__law_book {f : Addr} {fd : FuncData} (T : Txt K mg) (F : Fun K "_law_book" "_law_book" s__law_book f fd) (hm : mg "_law_book" = some (.ref f)) (kp : PySem.W.keepIn K (.ref f) = true) (b : Binds K fd ["_law_script", "_law_k", "_law_many"] []) (h0 : FnR P w K mg base 2 "_law_number" sp__law_number) (h1 : FnR P w K mg base 2 "_law_task" sp__law_task) : FnR P w K mg base 3 "_law_book" sp__law_book :=
  fnr_of hm kp (def_ok F sc__law_book lk__law_book T.bl (fun i g e => by
    match i, e with
    | 0, e => cases e; exact ⟨_, rfl, h0⟩
    | 1, e => cases e; exact ⟨_, rfl, h1⟩
    | i + 2, e => cases e) T.cn mt__law_book) b
theorem fn__law_harder_row {f : Addr} {fd : FuncData} (T : Txt K mg) (F : Fun K "_law_harder_row" "_law_harder_row" s__law_harder_row f fd) (hm : mg "_law_harder_row" = some (.ref f)) (kp : PySem.W.keepIn K (.ref f) = true) (b : Binds K fd ["_law_script", "_law_k", "_law_row", "_law_is_held", "_law_stock"] []) (h0 : FnR P w K mg base 1 "_law_number" sp__law_number) : FnR P w K mg base 2 "_law_harder_row" sp__law_harder_row :=
  fnr_of hm kp (def_ok F sc__law_harder_row lk__law_harder_row T.bl (fun i g e => by
    match i, e with
    | 0, e => cases e; exact ⟨_, rfl, h0⟩
    | i + 1, e => cases e) T.cn mt__law_harder_row) b
theorem fn__law_harder {f : Addr} {fd : FuncData} (T : Txt K mg) (F : Fun K "_law_harder" "_law_harder" s__law_harder f fd) (hm : mg "_law_harder" = some (.ref f)) (kp : PySem.W.keepIn K (.ref f) = true) (b : Binds K fd ["_law_script", "_law_k", "_law_book_here"] []) (h0 : FnR P w K mg base 2 "_law_number" sp__law_number) (h1 : FnR P w K mg base 2 "_law_harder_row" sp__law_harder_row) : FnR P w K mg base 3 "_law_harder" sp__law_harder :=
  fnr_of hm kp (def_ok F sc__law_harder lk__law_harder T.bl (fun i g e => by
    match i, e with
    | 0, e => cases e; exact ⟨_, rfl, h0⟩
    | 1, e => cases e; exact ⟨_, rfl, h1⟩
    | i + 2, e => cases e) T.cn mt__law_harder) b
theorem fn__law_row_due {f : Addr} {fd : FuncData} (T : Txt K mg) (F : Fun K "_law_row_due" "_law_row_due" s__law_row_due f fd) (hm : mg "_law_row_due" = some (.ref f)) (kp : PySem.W.keepIn K (.ref f) = true) (b : Binds K fd ["_law_row", "_law_other"] []) : FnR P w K mg base 1 "_law_row_due" sp__law_row_due :=
  fnr_of hm kp (def_ok F sc__law_row_due lk__law_row_due T.bl (fun i g e => by
    match i, e with
    | i + 0, e => cases e) T.cn mt__law_row_due) b
theorem fn__law_due {f : Addr} {fd : FuncData} (T : Txt K mg) (F : Fun K "_law_due" "_law_due" s__law_due f fd) (hm : mg "_law_due" = some (.ref f)) (kp : PySem.W.keepIn K (.ref f) = true) (b : Binds K fd ["_law_book_here", "_law_other"] []) (h0 : FnR P w K mg base 1 "_law_row_due" sp__law_row_due) : FnR P w K mg base 2 "_law_due" sp__law_due :=
  fnr_of hm kp (def_ok F sc__law_due lk__law_due T.bl (fun i g e => by
    match i, e with
    | 0, e => cases e; exact ⟨_, rfl, h0⟩
    | i + 1, e => cases e) T.cn mt__law_due) b
theorem fn__law_easier_row {f : Addr} {fd : FuncData} (T : Txt K mg) (F : Fun K "_law_easier_row" "_law_easier_row" s__law_easier_row f fd) (hm : mg "_law_easier_row" = some (.ref f)) (kp : PySem.W.keepIn K (.ref f) = true) (b : Binds K fd ["_law_number_here", "_law_way", "_law_row", "_law_old"] []) : FnR P w K mg base 1 "_law_easier_row" sp__law_easier_row :=
  fnr_of hm kp (def_ok F sc__law_easier_row lk__law_easier_row T.bl (fun i g e => by
    match i, e with
    | i + 0, e => cases e) T.cn mt__law_easier_row) b
theorem fn__law_easier {f : Addr} {fd : FuncData} (T : Txt K mg) (F : Fun K "_law_easier" "_law_easier" s__law_easier f fd) (hm : mg "_law_easier" = some (.ref f)) (kp : PySem.W.keepIn K (.ref f) = true) (b : Binds K fd ["_law_script", "_law_k", "_law_book_here", "_law_other"] []) (h0 : FnR P w K mg base 1 "_law_number" sp__law_number) (h1 : FnR P w K mg base 1 "_law_easier_row" sp__law_easier_row) : FnR P w K mg base 2 "_law_easier" sp__law_easier :=
  fnr_of hm kp (def_ok F sc__law_easier lk__law_easier T.bl (fun i g e => by
    match i, e with
    | 0, e => cases e; exact ⟨_, rfl, h0⟩
    | 1, e => cases e; exact ⟨_, rfl, h1⟩
    | i + 2, e => cases e) T.cn mt__law_easier) b
theorem ok_law {f : Addr} {fd : FuncData} (T : Txt K mg) (F : Fun K "law" "law" s_law f fd) (h0 : FnR P w K mg base 3 "_law_book" sp__law_book) (h1 : FnR P w K mg base 3 "_law_number" sp__law_number) (h2 : FnR P w K mg base 3 "_law_harder" sp__law_harder) (h3 : FnR P w K mg base 3 "_law_easier" sp__law_easier) (h4 : FnR P w K mg base 3 "is_harder" sp_is_harder) (h5 : FnR P w K mg base 3 "_law_due" sp__law_due) : Zh.TopOk P w K mg base (L2.CX P w) f fd "_law_script" (lift K mg (spLaw 63)) :=
  def_top (k := 3) F sc_law ⟨rfl, by decide, by decide⟩ lk_law T.bl (fun i g e => by
    match i, e with
    | 0, e => cases e; exact ⟨_, rfl, .inr h0⟩
    | 1, e => cases e; exact ⟨_, rfl, .inr h1⟩
    | 2, e => cases e; exact ⟨_, rfl, .inr h2⟩
    | 3, e => cases e; exact ⟨_, rfl, .inr h3⟩
    | 4, e => cases e; exact ⟨_, rfl, .inr h4⟩
    | 5, e => cases e; exact ⟨_, rfl, .inr h5⟩
    | 6, e => cases e; exact ⟨_, rfl, .inl rfl⟩
    | i + 7, e => cases e) T.cn mt_law
end
set_option maxHeartbeats 0 in
theorem all_mk {P : Program} {w : World} {K : PySem.W.Frag} {h : Heap} {mg : Str → Option Value} {fa f0 f1 f2 f3 f4 f5 f6 f7 f8 f9 f10 f11 f12 : Addr} (X : K.In h) (G : h.Ns mainGlobals mg) (hfa : mg "law" = some (.ref fa))
    {od0 an0 od1 an1 od2 an2 od3 an3 od4 an4 od5 an5 od6 an6 od7 an7 od8 an8 od9 an9 od10 an10 od11 an11 od12 an12 : Option Addr} {sl0 sl1 sl2 sl3 sl4 sl5 sl6 sl7 sl8 sl9 sl10 sl11 sl12 : Array (Option Value)}
    {oc0 kV0 dc0 pm0 cd0 ct0 oc1 kV1 dc1 pm1 cd1 ct1 oc2 kV2 dc2 pm2 cd2 ct2 oc3 kV3 dc3 pm3 cd3 ct3 oc4 kV4 dc4 pm4 cd4 ct4 oc5 kV5 dc5 pm5 cd5 ct5 oc6 kV6 dc6 pm6 cd6 ct6 oc7 kV7 dc7 pm7 cd7 ct7 oc8 kV8 dc8 pm8 cd8 ct8 oc9 kV9 dc9 pm9 cd9 ct9 oc10 kV10 dc10 pm10 cd10 ct10 oc11 kV11 dc11 pm11 cd11 ct11 oc12 kV12 dc12 pm12 cd12 ct12 : Value}
    (a0 : PySem.W.nsIn K mainGlobals "has_task" = some (some (.ref f0))) (l0 : K.lookup f0 = some ⟨oc0, od0, .func (PySem.W.fnOf "has_task" "has_task" (defArgs s_has_task) (defBody s_has_task) (defScope s_has_task) .none kV0 dc0 pm0 an0 cd0 ct0), sl0⟩) (c0 : PySem.W.codeIn K cd0 "has_task" = true) (k0 : PySem.W.keepIn K (.ref f0) = true)
    (a1 : PySem.W.nsIn K mainGlobals "has_waits" = some (some (.ref f1))) (l1 : K.lookup f1 = some ⟨oc1, od1, .func (PySem.W.fnOf "has_waits" "has_waits" (defArgs s_has_waits) (defBody s_has_waits) (defScope s_has_waits) .none kV1 dc1 pm1 an1 cd1 ct1), sl1⟩) (c1 : PySem.W.codeIn K cd1 "has_waits" = true) (k1 : PySem.W.keepIn K (.ref f1) = true)
    (a2 : PySem.W.nsIn K mainGlobals "is_harder" = some (some (.ref f2))) (l2 : K.lookup f2 = some ⟨oc2, od2, .func (PySem.W.fnOf "is_harder" "is_harder" (defArgs s_is_harder) (defBody s_is_harder) (defScope s_is_harder) .none kV2 dc2 pm2 an2 cd2 ct2), sl2⟩) (c2 : PySem.W.codeIn K cd2 "is_harder" = true) (k2 : PySem.W.keepIn K (.ref f2) = true)
    (a3 : PySem.W.nsIn K mainGlobals "_law_number" = some (some (.ref f3))) (l3 : K.lookup f3 = some ⟨oc3, od3, .func (PySem.W.fnOf "_law_number" "_law_number" (defArgs s__law_number) (defBody s__law_number) (defScope s__law_number) .none kV3 dc3 pm3 an3 cd3 ct3), sl3⟩) (c3 : PySem.W.codeIn K cd3 "_law_number" = true) (k3 : PySem.W.keepIn K (.ref f3) = true)
    (a4 : PySem.W.nsIn K mainGlobals "_law_task" = some (some (.ref f4))) (l4 : K.lookup f4 = some ⟨oc4, od4, .func (PySem.W.fnOf "_law_task" "_law_task" (defArgs s__law_task) (defBody s__law_task) (defScope s__law_task) .none kV4 dc4 pm4 an4 cd4 ct4), sl4⟩) (c4 : PySem.W.codeIn K cd4 "_law_task" = true) (k4 : PySem.W.keepIn K (.ref f4) = true)
    (a5 : PySem.W.nsIn K mainGlobals "_law_book" = some (some (.ref f5))) (l5 : K.lookup f5 = some ⟨oc5, od5, .func (PySem.W.fnOf "_law_book" "_law_book" (defArgs s__law_book) (defBody s__law_book) (defScope s__law_book) .none kV5 dc5 pm5 an5 cd5 ct5), sl5⟩) (c5 : PySem.W.codeIn K cd5 "_law_book" = true) (k5 : PySem.W.keepIn K (.ref f5) = true)
    (a6 : PySem.W.nsIn K mainGlobals "_law_harder_row" = some (some (.ref f6))) (l6 : K.lookup f6 = some ⟨oc6, od6, .func (PySem.W.fnOf "_law_harder_row" "_law_harder_row" (defArgs s__law_harder_row) (defBody s__law_harder_row) (defScope s__law_harder_row) .none kV6 dc6 pm6 an6 cd6 ct6), sl6⟩) (c6 : PySem.W.codeIn K cd6 "_law_harder_row" = true) (k6 : PySem.W.keepIn K (.ref f6) = true)
    (a7 : PySem.W.nsIn K mainGlobals "_law_harder" = some (some (.ref f7))) (l7 : K.lookup f7 = some ⟨oc7, od7, .func (PySem.W.fnOf "_law_harder" "_law_harder" (defArgs s__law_harder) (defBody s__law_harder) (defScope s__law_harder) .none kV7 dc7 pm7 an7 cd7 ct7), sl7⟩) (c7 : PySem.W.codeIn K cd7 "_law_harder" = true) (k7 : PySem.W.keepIn K (.ref f7) = true)
    (a8 : PySem.W.nsIn K mainGlobals "_law_row_due" = some (some (.ref f8))) (l8 : K.lookup f8 = some ⟨oc8, od8, .func (PySem.W.fnOf "_law_row_due" "_law_row_due" (defArgs s__law_row_due) (defBody s__law_row_due) (defScope s__law_row_due) .none kV8 dc8 pm8 an8 cd8 ct8), sl8⟩) (c8 : PySem.W.codeIn K cd8 "_law_row_due" = true) (k8 : PySem.W.keepIn K (.ref f8) = true)
    (a9 : PySem.W.nsIn K mainGlobals "_law_due" = some (some (.ref f9))) (l9 : K.lookup f9 = some ⟨oc9, od9, .func (PySem.W.fnOf "_law_due" "_law_due" (defArgs s__law_due) (defBody s__law_due) (defScope s__law_due) .none kV9 dc9 pm9 an9 cd9 ct9), sl9⟩) (c9 : PySem.W.codeIn K cd9 "_law_due" = true) (k9 : PySem.W.keepIn K (.ref f9) = true)
    (a10 : PySem.W.nsIn K mainGlobals "_law_easier_row" = some (some (.ref f10))) (l10 : K.lookup f10 = some ⟨oc10, od10, .func (PySem.W.fnOf "_law_easier_row" "_law_easier_row" (defArgs s__law_easier_row) (defBody s__law_easier_row) (defScope s__law_easier_row) .none kV10 dc10 pm10 an10 cd10 ct10), sl10⟩) (c10 : PySem.W.codeIn K cd10 "_law_easier_row" = true) (k10 : PySem.W.keepIn K (.ref f10) = true)
    (a11 : PySem.W.nsIn K mainGlobals "_law_easier" = some (some (.ref f11))) (l11 : K.lookup f11 = some ⟨oc11, od11, .func (PySem.W.fnOf "_law_easier" "_law_easier" (defArgs s__law_easier) (defBody s__law_easier) (defScope s__law_easier) .none kV11 dc11 pm11 an11 cd11 ct11), sl11⟩) (c11 : PySem.W.codeIn K cd11 "_law_easier" = true) (k11 : PySem.W.keepIn K (.ref f11) = true)
    (a12 : PySem.W.nsIn K mainGlobals "law" = some (some (.ref f12))) (l12 : K.lookup f12 = some ⟨oc12, od12, .func (PySem.W.fnOf "law" "law" (defArgs s_law) (defBody s_law) (defScope s_law) .none kV12 dc12 pm12 an12 cd12 ct12), sl12⟩) (c12 : PySem.W.codeIn K cd12 "law" = true) (k12 : PySem.W.keepIn K (.ref f12) = true)
    (z0 : PySem.W.nsIn K mainGlobals "len" = some none)
    (z1 : PySem.W.nsIn K mainGlobals "max" = some none)
    (z2 : PySem.W.nsIn K mainGlobals "min" = some none)
    (z3 : PySem.W.nsIn K mainGlobals "sum" = some none)
    (z4 : PySem.W.nsIn K mainGlobals "all" = some none)
    (z5 : PySem.W.nsIn K mainGlobals "any" = some none)
    (z6 : PySem.W.nsIn K mainGlobals "list" = some none)
    (z7 : PySem.W.nsIn K mainGlobals "tuple" = some none)
    (z8 : PySem.W.nsIn K mainGlobals "int" = some none)
    (z9 : PySem.W.nsIn K mainGlobals "isinstance" = some none)
    (z10 : PySem.W.nsIn K mainGlobals "range" = some none)
    (z11 : PySem.W.nsIn K mainGlobals "enumerate" = some none)
    (z12 : PySem.W.nsIn K mainGlobals "zip" = some none)
    (z13 : PySem.W.nsIn K mainGlobals "set" = some none)
    (z14 : PySem.W.nsIn K mainGlobals "bool" = some none)
    (z15 : PySem.W.nsIn K mainGlobals "str" = some none)
    (z16 : PySem.W.nsIn K mainGlobals "dict" = some none)
    (z17 : PySem.W.nsIn K mainGlobals "sorted" = some none)
    (z18 : PySem.W.nsIn K mainGlobals "repr" = some none)
    : ∃ fd : FuncData, (∀ (s : Shared) (u : Value), BindsTo s fd ⟨[u], []⟩ [("_law_script", u)]) ∧ ∀ base : Heap, K.In base → base.Ns mainGlobals mg → Zh.TopOk P w K mg base (L2.CX P w) fa fd "_law_script" (spL K) := by
  have e := hfa.symm.trans (PySem.W.mg_of X G a12)
  cases e
  have T : Txt K mg := ⟨fun n hn => by
    simp only [blts, List.mem_cons, List.not_mem_nil, or_false] at hn
    rcases hn with rfl | rfl | rfl | rfl | rfl | rfl | rfl | rfl | rfl | rfl | rfl | rfl | rfl | rfl | rfl | rfl | rfl | rfl | rfl
    · exact PySem.W.mg_none_of X G z0
    · exact PySem.W.mg_none_of X G z1
    · exact PySem.W.mg_none_of X G z2
    · exact PySem.W.mg_none_of X G z3
    · exact PySem.W.mg_none_of X G z4
    · exact PySem.W.mg_none_of X G z5
    · exact PySem.W.mg_none_of X G z6
    · exact PySem.W.mg_none_of X G z7
    · exact PySem.W.mg_none_of X G z8
    · exact PySem.W.mg_none_of X G z9
    · exact PySem.W.mg_none_of X G z10
    · exact PySem.W.mg_none_of X G z11
    · exact PySem.W.mg_none_of X G z12
    · exact PySem.W.mg_none_of X G z13
    · exact PySem.W.mg_none_of X G z14
    · exact PySem.W.mg_none_of X G z15
    · exact PySem.W.mg_none_of X G z16
    · exact PySem.W.mg_none_of X G z17
    · exact PySem.W.mg_none_of X G z18, fun p hp => by
    simp only [cs, List.mem_cons, List.not_mem_nil, or_false] at hp⟩
  have F0 := fun_mk (st := s_has_task) l0 c0 k0
  have b0 := F0.binds (ps := ["one", "other"]) fun _ _ _ _ _ _ us hl => match us, hl with | [_, _], _ => rfl
  have F1 := fun_mk (st := s_has_waits) l1 c1 k1
  have b1 := F1.binds (ps := ["one", "other"]) fun _ _ _ _ _ _ us hl => match us, hl with | [_, _], _ => rfl
  have F2 := fun_mk (st := s_is_harder) l2 c2 k2
  have b2 := F2.binds (ps := ["book", "other"]) fun _ _ _ _ _ _ us hl => match us, hl with | [_, _], _ => rfl
  have F3 := fun_mk (st := s__law_number) l3 c3 k3
  have b3 := F3.binds (ps := ["_law_script", "_law_k"]) fun _ _ _ _ _ _ us hl => match us, hl with | [_, _], _ => rfl
  have F4 := fun_mk (st := s__law_task) l4 c4 k4
  have b4 := F4.binds (ps := ["_law_script", "_law_k", "_law_machines", "_law_goods"]) fun _ _ _ _ _ _ us hl => match us, hl with | [_, _, _, _], _ => rfl
  have F5 := fun_mk (st := s__law_book) l5 c5 k5
  have b5 := F5.binds (ps := ["_law_script", "_law_k", "_law_many"]) fun _ _ _ _ _ _ us hl => match us, hl with | [_, _, _], _ => rfl
  have F6 := fun_mk (st := s__law_harder_row) l6 c6 k6
  have b6 := F6.binds (ps := ["_law_script", "_law_k", "_law_row", "_law_is_held", "_law_stock"]) fun _ _ _ _ _ _ us hl => match us, hl with | [_, _, _, _, _], _ => rfl
  have F7 := fun_mk (st := s__law_harder) l7 c7 k7
  have b7 := F7.binds (ps := ["_law_script", "_law_k", "_law_book_here"]) fun _ _ _ _ _ _ us hl => match us, hl with | [_, _, _], _ => rfl
  have F8 := fun_mk (st := s__law_row_due) l8 c8 k8
  have b8 := F8.binds (ps := ["_law_row", "_law_other"]) fun _ _ _ _ _ _ us hl => match us, hl with | [_, _], _ => rfl
  have F9 := fun_mk (st := s__law_due) l9 c9 k9
  have b9 := F9.binds (ps := ["_law_book_here", "_law_other"]) fun _ _ _ _ _ _ us hl => match us, hl with | [_, _], _ => rfl
  have F10 := fun_mk (st := s__law_easier_row) l10 c10 k10
  have b10 := F10.binds (ps := ["_law_number_here", "_law_way", "_law_row", "_law_old"]) fun _ _ _ _ _ _ us hl => match us, hl with | [_, _, _, _], _ => rfl
  have F11 := fun_mk (st := s__law_easier) l11 c11 k11
  have b11 := F11.binds (ps := ["_law_script", "_law_k", "_law_book_here", "_law_other"]) fun _ _ _ _ _ _ us hl => match us, hl with | [_, _, _, _], _ => rfl
  have F12 := fun_mk (st := s_law) l12 c12 k12
  refine ⟨PySem.W.fnOf "law" "law" (defArgs s_law) (defBody s_law) (defScope s_law) .none kV12 dc12 pm12 an12 cd12 ct12, fun s u => .of_eq rfl, fun base _ _ => ?_⟩
  have g0 : FnR P w K mg base 1 "has_task" sp_has_task := fn_has_task T F0 (PySem.W.mg_of X G a0) k0 b0
  have g1 : FnR P w K mg base 1 "has_waits" sp_has_waits := fn_has_waits T F1 (PySem.W.mg_of X G a1) k1 b1
  have g3 : FnR P w K mg base 1 "_law_number" sp__law_number := fn__law_number T F3 (PySem.W.mg_of X G a3) k3 b3
  have g8 : FnR P w K mg base 1 "_law_row_due" sp__law_row_due := fn__law_row_due T F8 (PySem.W.mg_of X G a8) k8 b8
  have g10 : FnR P w K mg base 1 "_law_easier_row" sp__law_easier_row := fn__law_easier_row T F10 (PySem.W.mg_of X G a10) k10 b10
  have g2 : FnR P w K mg base 2 "is_harder" sp_is_harder := fn_is_harder T F2 (PySem.W.mg_of X G a2) k2 b2 (g0.mono (by decide)) (g1.mono (by decide))
  have g4 : FnR P w K mg base 2 "_law_task" sp__law_task := fn__law_task T F4 (PySem.W.mg_of X G a4) k4 b4 (g3.mono (by decide))
  have g6 : FnR P w K mg base 2 "_law_harder_row" sp__law_harder_row := fn__law_harder_row T F6 (PySem.W.mg_of X G a6) k6 b6 (g3.mono (by decide))
  have g9 : FnR P w K mg base 2 "_law_due" sp__law_due := fn__law_due T F9 (PySem.W.mg_of X G a9) k9 b9 (g8.mono (by decide))
  have g11 : FnR P w K mg base 2 "_law_easier" sp__law_easier := fn__law_easier T F11 (PySem.W.mg_of X G a11) k11 b11 (g3.mono (by decide)) (g10.mono (by decide))
  have g5 : FnR P w K mg base 3 "_law_book" sp__law_book := fn__law_book T F5 (PySem.W.mg_of X G a5) k5 b5 (g3.mono (by decide)) (g4.mono (by decide))
  have g7 : FnR P w K mg base 3 "_law_harder" sp__law_harder := fn__law_harder T F7 (PySem.W.mg_of X G a7) k7 b7 (g3.mono (by decide)) (g6.mono (by decide))
  exact top_spL (ok_law T F12 (g5.mono (by decide)) (g3.mono (by decide)) (g7.mono (by decide)) (g11.mono (by decide)) (g2.mono (by decide)) (g9.mono (by decide)))
end Law
open PySem PySem.W PyProof.Rows
set_option maxRecDepth 100000 in
set_option maxHeartbeats 0 in
theorem PySem.Challenge.cw_boundsmith_k80_as_hard_in_each_point_holds : PySem.Challenge.rw_boundsmith_k80_as_hard_in_each_point.Holds := by
  w_on; o_law; k_head; (case hw => w_witness2)
  k_fill
  refine Zh.walk_top (n := 63) (x := "_law_script") (CX := fun w => L2.CX PySem.Challenge.pw_boundsmith_k80_as_hard_in_each_point w) (sp := fun w => Z.spL _) rfl (by decide) rfl (fun w h Y => PySem.W.kIn_of Y) ?F (fun w H a ns hl ho hs => Z.law_spL hl ho hs) (fun w H s e s1 z => Z.no_exc z)
  case F =>
    intro w mg fa h KX G hmg
    refine' Law.all_mk KX G hmg ?a0 ?l0 ?c0 ?k0 ?a1 ?l1 ?c1 ?k1 ?a2 ?l2 ?c2 ?k2 ?a3 ?l3 ?c3 ?k3 ?a4 ?l4 ?c4 ?k4 ?a5 ?l5 ?c5 ?k5 ?a6 ?l6 ?c6 ?k6 ?a7 ?l7 ?c7 ?k7 ?a8 ?l8 ?c8 ?k8 ?a9 ?l9 ?c9 ?k9 ?a10 ?l10 ?c10 ?k10 ?a11 ?l11 ?c11 ?k11 ?a12 ?l12 ?c12 ?k12 ?z0 ?z1 ?z2 ?z3 ?z4 ?z5 ?z6 ?z7 ?z8 ?z9 ?z10 ?z11 ?z12 ?z13 ?z14 ?z15 ?z16 ?z17 ?z18
    (case a0 => k_is); (case l0 => k_is); (case c0 => k_is); (case k0 => k_is); (case a1 => k_is); (case l1 => k_is); (case c1 => k_is); (case k1 => k_is)
    (case a2 => k_is); (case l2 => k_is); (case c2 => k_is); (case k2 => k_is); (case a3 => k_is); (case l3 => k_is); (case c3 => k_is); (case k3 => k_is)
    (case a4 => k_is); (case l4 => k_is); (case c4 => k_is); (case k4 => k_is); (case a5 => k_is); (case l5 => k_is); (case c5 => k_is); (case k5 => k_is)
    (case a6 => k_is); (case l6 => k_is); (case c6 => k_is); (case k6 => k_is); (case a7 => k_is); (case l7 => k_is); (case c7 => k_is); (case k7 => k_is)
    (case a8 => k_is); (case l8 => k_is); (case c8 => k_is); (case k8 => k_is); (case a9 => k_is); (case l9 => k_is); (case c9 => k_is); (case k9 => k_is)
    (case a10 => k_is); (case l10 => k_is); (case c10 => k_is); (case k10 => k_is); (case a11 => k_is); (case l11 => k_is); (case c11 => k_is); (case k11 => k_is)
    (case a12 => k_is); (case l12 => k_is); (case c12 => k_is); (case k12 => k_is); (case z0 => k_is); (case z1 => k_is); (case z2 => k_is); (case z3 => k_is)
    (case z4 => k_is); (case z5 => k_is); (case z6 => k_is); (case z7 => k_is); (case z8 => k_is); (case z9 => k_is); (case z10 => k_is); (case z11 => k_is)
    (case z12 => k_is); (case z13 => k_is); (case z14 => k_is); (case z15 => k_is); (case z16 => k_is); (case z17 => k_is); (case z18 => k_is)
#print axioms PySem.Challenge.cw_boundsmith_k80_as_hard_in_each_point_holds
