import PyProof.Rows.All
import Wide.All
import OpenK.AllK
import Wide.FinOn
import HandS.ForMost
import HandS.ForExc
import KE.SortData
import KE.DataMinMax
import HandS.TupSets
import HandS.SortKw
import HandS.Strs
import KE.OsSetLaws
import HandS.SetKeys
import HandS.Conv
import KE.KDictPairs
import HandS.Zip
import KE.GoesZip
import KE.GoesMore
import KE.GoesEnum
import HandS.ExcInit
import PyProof.ReprRoads
import PyProof.ReprBulk
import HandS.Ends
import HandS.TupAny
import HandS.Style
import HandS.List
import HandS.ExcIs
import HandS.Deep
import KE.KDictZip
import PyProof.EqKinds
import PyProof.NeKinds
import HandS.TupMul
import PyProof.CollectStr
import PyProof.TupleOfSeq
import HandS.Wide
import HandS.IsInst
import HandS.Flow
import HandS.CallSlots
import HandS.Flt
import HandS.Replace
import HandS.ExcField
import PySem.Challenge.RW_boundsmith_k34_whole_parted_shown
set_option Elab.async false
set_option linter.all false
set_option maxRecDepth 100000
set_option autoImplicit false
/-! Zdef: a small language that mirrors the program's Python, its values with tuples as plain data, and what must hold ahead of a piece of it (weakest preconditions), as plain Lean. -/
namespace Z
open PySem

/-! ### values -/
inductive PV where
  | non | bl (b : Bool) | int (i : Int) | str (s : Str) | tup (xs : List PV) | ref (i : Nat) | ils (xs : List PV) | itp (xs : List PV) | exc (c : Str) (ns : List Str) (vs : List PV)

abbrev At := Sum Int Str
inductive Ky where
  | one (k : At) | many (ks : List At)
  deriving DecidableEq

/-- what lies at a place of the heap -/
inductive Ob where
  | lst (xs : List PV) | dic (kvs : List (Ky × PV)) | ins (c : Str) (fs : List (Str × PV)) | ldc (u : L2.HO) (kvs : List (Ky × PV))

abbrev Hep := List Ob
abbrev Env := List (Option PV)
structure XV where
  cls : Str
  fs : List (Str × PV)
abbrev KQ := PV → Hep → Prop
abbrev KX := XV → Hep → Prop
abbrev KB := Bool → Hep → Prop
abbrev Spec := List PV → Hep → KQ → KX → Prop
abbrev noX : KX := fun _ _ => False

def big : Nat := 16777216

/-! ### keys, dicts -/
def keyAtom : PV → Option At
  | .int i => some (.inl i)
  | .str s => some (.inr s)
  | _ => none
def keyAtoms : List PV → Option (List At)
  | [] => some []
  | x :: xs => match keyAtom x, keyAtoms xs with
    | some k, some ks => some (k :: ks)
    | _, _ => none
def keyOf : PV → Option Ky
  | .tup xs => (keyAtoms xs).map Ky.many
  | .int i => some (.one (.inl i))
  | .str s => some (.one (.inr s))
  | _ => none
def atomV : At → PV
  | .inl i => .int i
  | .inr s => .str s
def keyV : Ky → PV
  | .one k => atomV k
  | .many ks => .tup (ks.map atomV)
def dget (k : Ky) : List (Ky × PV) → Option PV
  | [] => none
  | (j, v) :: r => if j = k then some v else dget k r
/-- in its place, or at the end -/
def dput (k : Ky) (v : PV) (kvs : List (Ky × PV)) : List (Ky × PV) :=
  if (dget k kvs).isSome = true then kvs.map (fun p => if p.1 = k then (p.1, v) else p) else kvs ++ [(k, v)]
def ddel (k : Ky) (kvs : List (Ky × PV)) : List (Ky × PV) := kvs.filter fun p => decide (p.1 ≠ k)
def sameKind : Ky → Ky → Bool
  | .one _, .one _ => true
  | .many _, .many _ => true
  | _, _ => false
/-- a dict holds keys of one kind -/
def kindOk (k : Ky) : List (Ky × PV) → Bool
  | [] => true
  | (j, _) :: _ => sameKind j k

/-! ### reading the heap -/
def getL (h : Hep) (r : Nat) (F : List PV → Prop) : Prop := match h[r]? with | some (.lst xs) => F xs | _ => False
def getD (h : Hep) (r : Nat) (F : List (Ky × PV) → Prop) : Prop := match h[r]? with | some (.dic xs) => F xs | _ => False
def getO (h : Hep) (r : Nat) (F : Str → List (Str × PV) → Prop) : Prop := match h[r]? with | some (.ins c fs) => F c fs | _ => False
/-- a list that may be read -/
def listW (h : Hep) (x : PV) (F : List PV → Prop) : Prop := match x with
  | .ref r => getL h r F
  | .ils xs => F xs
  | _ => False
/-- a list or a tuple -/
def seqW (h : Hep) (x : PV) (F : List PV → Prop) : Prop := match x with
  | .ref r => getL h r F
  | .ils xs => F xs
  | .tup xs => F xs
  | .itp xs => F xs
  | _ => False
def intsOf : List PV → Option (List Int)
  | [] => some []
  | .int i :: r => (intsOf r).map (i :: ·)
  | _ :: _ => none
def boolsOf : List PV → Option (List Bool)
  | [] => some []
  | .bl i :: r => (boolsOf r).map (i :: ·)
  | _ :: _ => none
def strsOf : List PV → Option (List Str)
  | [] => some []
  | .str i :: r => (strsOf r).map (i :: ·)
  | _ :: _ => none

/-! ### data, for == -/
def datAll (f : PV → Option PyData) : List PV → Option (List PyData)
  | [] => some []
  | x :: xs => match f x, datAll f xs with
    | some d, some ds => some (d :: ds)
    | _, _ => none
def dat (h : Hep) : Nat → PV → Option PyData
  | _, .non => some .none
  | _, .bl b => some (.bool b)
  | _, .int i => some (.int i)
  | _, .str s => some (.str s)
  | _, .exc _ _ _ => none
  | 0, _ => none
  | n + 1, .tup xs => (datAll (dat h n) xs).map .tuple
  | n + 1, .itp xs => (datAll (dat h n) xs).map .tuple
  | n + 1, .ils xs => (datAll (dat h n) xs).map .list
  | n + 1, .ref r => match h[r]? with | some (.lst xs) => (datAll (dat h n) xs).map .list | _ => none
/-- == where the items are not looked at: things of two kinds, or nothing in one of them -/
def oddE (h : Hep) (x y : PV) (b : Bool) : Prop :=
  (∃ xs s, x = .itp xs ∧ y = .str s ∧ b = false) ∨
  (∃ r s, x = .ref r ∧ y = .str s ∧ ((∃ xs, h[r]? = some (.lst xs)) ∨ ∃ kvs, h[r]? = some (.dic kvs)) ∧ b = false) ∨
  (∃ xs, x = .itp xs ∧ y = .itp [] ∧ b = xs.isEmpty) ∨
  ∃ r q xs, x = .ref r ∧ y = .ref q ∧ h[r]? = some (.lst xs) ∧ h[q]? = some (.lst []) ∧ b = xs.isEmpty
/-- x == y is K's argument -/
def eqW (h : Hep) (x y : PV) (K : Bool → Prop) : Prop :=
  (∃ d e, dat h 60 x = some d ∧ dat h 60 y = some e ∧ SeqAt.shaped d = true ∧ SeqAt.shaped e = true ∧ K (PyData.eqv d e)) ∨ (∃ s t, x = .str s ∧ y = .str t ∧ K (s == t)) ∨ ∃ b, oddE h x y b ∧ K b

/-! ### truth -/
def truW (h : Hep) (x : PV) (K : Bool → Prop) : Prop := match x with
  | .non => K false
  | .bl b => K b
  | .int i => K (i != 0)
  | .str s => s.length ≤ big ∧ K ((s.length : Int) != 0)
  | .tup xs => K (!xs.isEmpty)
  | .ils xs => K (!xs.isEmpty)
  | .itp xs => K (!xs.isEmpty)
  | .ref r => getL h r fun xs => K (!xs.isEmpty)
  | .exc _ _ _ => False

/-! ### operators -/
def mulOk (i j : Int) : Prop := (-(2 ^ 64) < i ∧ i < 2 ^ 64) ∨ (-(2 ^ 64) < j ∧ j < 2 ^ 64) ∨ i.natAbs.log2 + j.natAbs.log2 < 1000000
def divOk (j : Int) : Prop := 0 < j ∧ j.natAbs.log2 < 9000
def powOk (i j : Int) : Prop := 0 ≤ j ∧ j ≤ 1000000 ∧ i.natAbs < 2 ^ 64
def binI (o : Operator) (i j : Int) (F : Int → Prop) : Prop := match o with
  | .Add => F (i + j)
  | .Sub => F (i - j)
  | .Mult => mulOk i j ∧ F (i * j)
  | .FloorDiv => divOk j ∧ F (i / j)
  | .Mod => 0 < j ∧ F (i % j)
  | .Pow => powOk i j ∧ F (i ^ j.toNat)
  | .LShift => powOk i j ∧ F (i * 2 ^ j.toNat)
  | .RShift => 0 ≤ j ∧ F (i / 2 ^ j.toNat)
  | .BitAnd => F (Builtin.bitAnd i j)
  | _ => False
/-- a text some times -/
def strRep (s : Str) (n : Nat) : Str := ⟨(List.replicate n s.cps.toList).flatten.toArray⟩
/-- the signs of a text -/
def signsOf (s : Str) : List PV := s.cps.toList.map fun c => .str ⟨#[c]⟩
def binW (o : Operator) (x y : PV) (h : Hep) (F : KQ) : Prop := match x, y with
  | .int i, .int j => binI o i j fun k => F (.int k) h
  | .str s, .str t => o = .Add ∧ s.length + t.length ≤ big ∧ F (.str (s ++ t)) h
  | .str s, .int k => o = .Mult ∧ 0 ≤ k ∧ k ≤ 1000000 ∧ s.length * k.toNat ≤ 1000000 ∧ F (.str (strRep s k.toNat)) h
  | .tup xs, .tup ys => o = .Add ∧ xs.length + ys.length ≤ big ∧ F (.tup (xs ++ ys)) h
  | .itp xs, .itp ys => o = .Add ∧ xs.length + ys.length ≤ big ∧ F (.itp (xs ++ ys)) h
  | .itp xs, .int k => o = .Mult ∧ xs ≠ [] ∧ 1 ≤ k ∧ k ≤ 1000 ∧ xs.length ≤ 1000 ∧ F (.itp (List.replicate k.toNat xs).flatten) h
  | .ref r, .ref q => o = .Add ∧ getL h r fun xs => getL h q fun ys => xs.length + ys.length ≤ big ∧ F (.ref h.length) (h ++ [.lst (xs ++ ys)])
  | .ref r, .int k => o = .Mult ∧ getL h r fun xs => -(2 ^ 63) ≤ k ∧ k < 2 ^ 63 ∧ xs.length * k.toNat ≤ big ∧ F (.ref h.length) (h ++ [.lst ((List.replicate k.toNat xs).flatten)])
  | _, _ => False

/-! ### comparisons -/
/-- the order of texts by their codes -/
def strLt (s t : Str) : Bool := decide (s.cps.toList < t.cps.toList)
def inL (h : Hep) (x : PV) (ys : List PV) (K : Bool → Prop) : Prop :=
  ∃ d es, dat h 59 x = some d ∧ SeqAt.shaped d = true ∧ datAll (dat h 59) ys = some es ∧ PyData.canLayAll0 es = true ∧ K (es.any fun e => PyData.eqv e d)
def inW (h : Hep) (x y : PV) (K : Bool → Prop) : Prop := match y with
  | .str t => (match x with | .str s => K (!(Builtin.Str.occurrences t s 0 t.length 1).isEmpty) | _ => False)
  | .tup ys => inL h x ys K
  | .ils ys => inL h x ys K
  | .itp ys => inL h x ys K
  | .ref r => (match h[r]? with
    | some (.lst ys) => inL h x ys K
    | some (.dic kvs) => ∃ k, keyOf x = some k ∧ kindOk k kvs = true ∧ K (dget k kvs).isSome
    | _ => False)
  | _ => False
def cmpW (o : CmpOp) (x y : PV) (h : Hep) (K : Bool → Prop) : Prop := match o with
  | .Lt => (match x, y with | .int i, .int j => K (decide (i < j)) | .str s, .str t => K (strLt s t) | _, _ => False)
  | .LtE => (match x, y with | .int i, .int j => K (decide (i ≤ j)) | _, _ => False)
  | .Gt => (match x, y with | .int i, .int j => K (decide (j < i)) | _, _ => False)
  | .GtE => (match x, y with | .int i, .int j => K (decide (j ≤ i)) | _, _ => False)
  | .Eq => eqW h x y K
  | .NotEq => eqW h x y fun b => K (!b)
  | .Is => (match y with | .non => K (match x with | .non => true | _ => false) | .bl b => (match x with | .bl a => K (decide (a = b)) | _ => False) | _ => False)
  | .IsNot => (match y with | .non => K (match x with | .non => false | _ => true) | .bl b => (match x with | .bl a => K (!decide (a = b)) | _ => False) | _ => False)
  | .In => inW h x y K
  | .NotIn => inW h x y fun b => K (!b)

/-! ### places, slices -/
abbrev ixN := L2.ixN
abbrev sIx := HT.sIx
def cutL {α : Type} (xs : List α) (lo hi : Option Int) : List α := (xs.drop (sIx xs.length 0 lo)).take (sIx xs.length xs.length hi - sIx xs.length 0 lo)
def itemW (x i : PV) (h : Hep) (F : KQ) : Prop := match x, i with
  | .tup xs, .int i => ∃ j v, ixN xs.length i = some j ∧ xs[j]? = some v ∧ F v h
  | .ils xs, .int i => ∃ j v, ixN xs.length i = some j ∧ xs[j]? = some v ∧ F v h
  | .itp xs, .int i => ∃ j v, ixN xs.length i = some j ∧ xs[j]? = some v ∧ F v h
  | .str s, .int i => ∃ j c, s.length ≤ big ∧ ixN s.cps.toList.length i = some j ∧ s.cps.toList[j]? = some c ∧ F (.str ⟨#[c]⟩) h
  | .ref r, i => (match h[r]? with
    | some (.lst xs) => (match i with | .int i => ∃ j v, ixN xs.length i = some j ∧ xs[j]? = some v ∧ F v h | _ => False)
    | some (.dic kvs) => ∃ k v, keyOf i = some k ∧ dget k kvs = some v ∧ F v h
    | some (.ldc _ kvs) => ∃ k v, keyOf i = some k ∧ dget k kvs = some v ∧ F v h
    | _ => False)
  | _, _ => False
def sliceW (x : PV) (lo hi : Option Int) (h : Hep) (F : KQ) : Prop := match x with
  | .tup xs => F (.tup (cutL xs lo hi)) h
  | .ils xs => F (.ref h.length) (h ++ [.lst (cutL xs lo hi)])
  | .ref r => getL h r fun xs => F (.ref h.length) (h ++ [.lst (cutL xs lo hi)])
  | .str s => s.length ≤ big ∧ F (.str (L2.cutS s lo hi)) h
  | .itp xs => F (.itp (cutL xs lo hi)) h
  | _ => False
/-- x[::-1] -/
def revW (x : PV) (h : Hep) (F : KQ) : Prop := match x with
  | .itp xs => F (.itp xs.reverse) h
  | .ref r => getL h r fun ys => F (.ref h.length) (h ++ [.lst ys.reverse])
  | .ils ys => F (.ref h.length) (h ++ [.lst ys.reverse])
  | _ => False
/-- x[::s], s told to be 1 or -1 -/
def stpW (x y : PV) (h : Hep) (F : KQ) : Prop := match y with
  | .int i => (i = 1 ∧ listW h x fun ys => F (.ref h.length) (h ++ [.lst ys])) ∨ (i = -1 ∧ listW h x fun ys => F (.ref h.length) (h ++ [.lst ys.reverse]))
  | _ => False
/-- o[i] = v -/
def storeW (x i v : PV) (h : Hep) (F : Hep → Prop) : Prop := match x with
  | .ref r => (match h[r]? with
    | some (.lst xs) => (match i with | .int i => ∃ j, ixN xs.length i = some j ∧ F (h.set r (.lst (xs.set j v))) | _ => False)
    | some (.dic kvs) => ∃ k, keyOf i = some k ∧ kindOk k kvs = true ∧ kvs.length < big ∧ F (h.set r (.dic (dput k v kvs)))
    | _ => False)
  | _ => False

/-! ### the order of data, for sorted, min, max: ints, texts, tuples of such -/
def cmpA {α : Type} (lt : α → α → Bool) (x y : α) : Ordering := if lt x y then .lt else if lt y x then .gt else .eq
mutual
def cmpP : PV → PV → Ordering
  | .int i, .int j => cmpA (fun a b => decide (a < b)) i j
  | .str s, .str t => cmpA strLt s t
  | .tup xs, .tup ys => cmpPs xs ys
  | _, _ => .eq
def cmpPs : List PV → List PV → Ordering
  | [], [] => .eq
  | [], _ :: _ => .lt
  | _ :: _, [] => .gt
  | x :: xs, y :: ys => match cmpP x y with | .lt => .lt | .gt => .gt | .eq => cmpPs xs ys
end
def ltP (x y : PV) : Bool := cmpP x y == .lt
def insP (x : PV) : List PV → List PV
  | [] => [x]
  | y :: r => if ltP x y then x :: y :: r else y :: insP x r
/-- sorted, stable -/
def sortP (xs : List PV) : List PV := xs.foldl (fun acc x => insP x acc) []

/-- each once, where it comes first -/
def firsts {κ : Type} [DecidableEq κ] (xs : List κ) : List κ := xs.foldl (fun acc k => if k ∈ acc then acc else acc ++ [k]) []
/-- pairs of a key and a thing -/
def pairsOf : List PV → Option (List (At × PV))
  | [] => some []
  | .tup [k, v] :: r => (match keyAtom k, pairsOf r with | some a, some ps => some ((a, v) :: ps) | _, _ => none)
  | .itp [k, v] :: r => (match keyAtom k, pairsOf r with | some a, some ps => some ((a, v) :: ps) | _, _ => none)
  | _ :: _ => none
/-- the pairs of enumerate -/
def enumA : Nat → List PV → List (At × PV)
  | _, [] => []
  | k, x :: r => (.inl (k : Int), x) :: enumA (k + 1) r
def dputs (acc : List (Ky × PV)) (ps : List (At × PV)) : List (Ky × PV) := ps.foldl (fun d p => dput (.one p.1) p.2 d) acc
/-- a list, or a tuple that is known whole -/
def pairW (h : Hep) (x : PV) (F : List PV → Prop) : Prop := match x with
  | .ref r => getL h r F
  | .ils xs => F xs
  | .itp xs => F xs
  | _ => False
/-- d.get(k) -/
def dgetW (h : Hep) (x y : PV) (G : Option PV → Prop) : Prop := match x with
  | .ref r => getD h r fun kvs => ∃ k, keyOf y = some k ∧ kindOk k kvs = true ∧ G (dget k kvs)
  | _ => False
def isD (h : Hep) (x : PV) : Prop := match x with | .ref r => getD h r fun _ => True | _ => False

/-! ### built-ins by their names -/
inductive BI where
  | len | max2 | min2 | sum | all | any | list | tuple | lenset | listrange | int | maxl | minl | sorted | sortedset | max3 | min3 | dict | xtuple | lenkeys | dictenum | minp | sortedk
  deriving DecidableEq
inductive IT where
  | int | bool | str | list | tuple | dict
  deriving DecidableEq
def maxL : List Int → Int
  | [] => 0
  | [x] => x
  | x :: y :: r => max x (maxL (y :: r))
def minL : List Int → Int
  | [] => 0
  | [x] => x
  | x :: y :: r => min x (minL (y :: r))
/-- sorted, by the data -/
def sortZ (ys : List PV) (ds : List PyData) : List PV := ((ys.zip ds).mergeSort (PySem.W.dataLe false fun p => p.2)).map (·.1)
/-- tuple(..), known whole, of a list or of a text -/
def xtW (x : PV) (h : Hep) (F : KQ) : Prop := match x with
  | .str s => s.length ≤ big ∧ F (.itp (signsOf s)) h
  | .ref r => getL h r fun ys => F (.itp ys) h
  | .ils ys => F (.itp ys) h
  | _ => False
def biW (b : BI) (xs : List PV) (h : Hep) (F : KQ) : Prop := match b, xs with
  | .len, [.str s] => s.length ≤ big ∧ F (.int s.length) h
  | .len, [.tup ys] => F (.int ys.length) h
  | .len, [.ils ys] => F (.int ys.length) h
  | .len, [.itp ys] => F (.int ys.length) h
  | .len, [.ref r] => getL h r fun ys => F (.int ys.length) h
  | .max2, [.int i, .int j] => F (.int (max i j)) h
  | .min2, [.int i, .int j] => F (.int (min i j)) h
  | .max3, [.int i, .int j, .int k] => F (.int (max (max i j) k)) h
  | .min3, [.int i, .int j, .int k] => F (.int (min (min i j) k)) h
  | .minp, [x] => listW h x fun ys => ∃ d ds, datAll (dat h 59) ys = some (d :: ds) ∧ PySem.W.AlikeAll (d :: ds) ∧ PyData.depthAll (d :: ds) ≤ 60 ∧ ∀ (i : Nat) (v : PV), ys[i]? = some v → (d :: ds)[i]? = some (PySem.W.minD d ds) → F v h
  | .sortedk, [x] => (match x with
    | .ref r => getD h r fun kvs => kvs ≠ [] ∧ ∃ ks : List Int, kvs.map (·.1) = ks.map (fun i => Ky.one (.inl i)) ∧ ks.length < 64 ∧ ∀ ms : List Int, ms.Perm ks → ms.Pairwise (· ≤ ·) → F (.ref h.length) (h ++ [.lst (ms.map PV.int)])
    | _ => False)
  | .sum, [x] => listW h x fun ys => ∃ ns, intsOf ys = some ns ∧ F (.int ns.sum) h
  | .all, [x] => listW h x fun ys => ∃ bs, boolsOf ys = some bs ∧ F (.bl (bs.all id)) h
  | .any, [x] => listW h x fun ys => ∃ bs, boolsOf ys = some bs ∧ F (.bl (bs.any id)) h
  | .list, [x] => seqW h x fun ys => F (.ref h.length) (h ++ [.lst ys])
  | .tuple, [.tup ys] => F (.tup ys) h
  | .tuple, [.itp ys] => F (.itp ys) h
  | .tuple, [x] => listW h x fun ys => F (.tup ys) h
  | .listrange, [.int n] => -(2 ^ 62) ≤ n ∧ n ≤ big ∧ F (.ref h.length) (h ++ [.lst ((List.range n.toNat).map fun (i : Nat) => PV.int i)])
  | .listrange, [.int a, .int b] => -(2 ^ 62) ≤ a ∧ a < 2 ^ 62 ∧ -(2 ^ 62) ≤ b ∧ b < 2 ^ 62 ∧ b - a ≤ big ∧ F (.ref h.length) (h ++ [.lst ((List.range (b - a).toNat).map fun (i : Nat) => PV.int (a + i))])
  | .maxl, [x] => seqW h x fun ys => ∃ ns, intsOf ys = some ns ∧ ns ≠ [] ∧ F (.int (maxL ns)) h
  | .minl, [x] => seqW h x fun ys => ∃ ns, intsOf ys = some ns ∧ ns ≠ [] ∧ F (.int (minL ns)) h
  | .lenset, [x] => listW h x fun ys => ∃ ns, intsOf ys = some ns ∧ ns.length ≤ 4000 ∧ ns.Nodup ∧ F (.int ns.length) h
  | .sorted, [x] => seqW h x fun ys => ∃ ds, datAll (dat h 59) ys = some ds ∧ PySem.W.AllAlike ds ∧ PySem.W.Sortable ds ∧ F (.ref h.length) (h ++ [.lst (sortZ ys ds)])
  | .sortedset, [x] => seqW h x fun ys => ∃ ns, intsOf ys = some ns ∧ ns.length < 64 ∧ ∀ ms : List Int, ms.Pairwise (· < ·) → (∀ k, k ∈ ms ↔ k ∈ ns) → F (.ref h.length) (h ++ [.lst (ms.map PV.int)])
  | .dict, [x] => pairW h x fun ys => ∃ ps, pairsOf ys = some ps ∧ F (.ref h.length) (h ++ [.dic (dputs [] ps)])
  | .dictenum, [x] => seqW h x fun ys => F (.ref h.length) (h ++ [.dic (dputs [] (enumA 0 ys))])
  | .xtuple, [x] => xtW x h F
  | .lenkeys, [x] => listW h x fun ys => ∃ ks, keyAtoms ys = some ks ∧ ks.length ≤ 4000 ∧ F (.int (firsts ks).length) h
  | .int, [.int i] => F (.int i) h
  | .int, [.bl b] => F (.int (if b then 1 else 0)) h
  | .int, [.str s] => ∃ n, PySem.intText? s = some n ∧ s.length ≤ 640 ∧ F (.int n) h
  | _, _ => False
/-- isinstance -/
def isT (t : IT) (h : Hep) (x : PV) (K : Bool → Prop) : Prop := match x with
  | .non => K false
  | .bl _ => K (t == .bool || t == .int)
  | .int _ => K (t == .int)
  | .str _ => K (t == .str)
  | .tup _ => K (t == .tuple)
  | .ils _ => K (t == .list)
  | .itp _ => K (t == .tuple)
  | .exc _ _ _ => False
  | .ref r => match h[r]? with | some (.lst _) => K (t == .list) | some (.dic _) => K (t == .dict) | _ => False

/-! ### methods of built-in types -/
inductive MI where
  | append | pop | popAt | index | remove | extend | clear | count
  deriving DecidableEq
def isL (h : Hep) (x : PV) : Prop := match x with | .ref r => getL h r fun _ => True | _ => False
def miW (m : MI) (x : PV) (xs : List PV) (h : Hep) (F : KQ) : Prop := match m, x, xs with
  | .append, .ref r, [v] => getL h r fun ys => ys.length < big ∧ F .non (h.set r (.lst (ys ++ [v])))
  | .pop, .ref r, [] => getL h r fun ys => ∃ v, ys[ys.length - 1]? = some v ∧ F v (h.set r (.lst ys.dropLast))
  | .popAt, .ref r, [.int i] => getL h r fun ys => ∃ j v, -(2 ^ 63) ≤ i ∧ i < 2 ^ 63 ∧ ixN ys.length i = some j ∧ ys[j]? = some v ∧ F v (h.set r (.lst (ys.eraseIdx j)))
  | .index, .ref r, [v] => getL h r fun ys => ∃ d ds j z, dat h 59 v = some d ∧ SeqAt.shaped d = true ∧ datAll (dat h 59) ys = some ds ∧ PyData.canLayAll0 ds = true ∧ ds[j]? = some z ∧ PyData.eqv z d = true ∧
      (∀ (m : Nat) (z' : PyData), m < j → ds[m]? = some z' → PyData.eqv z' d = false) ∧ F (.int (j : Nat)) h
  | .remove, .ref r, [.int i] => getL h r fun ys => ∃ ns j, intsOf ys = some ns ∧ ns[j]? = some i ∧ (∀ m : Nat, m < j → ns[m]? ≠ some i) ∧ F .non (h.set r (.lst (ys.eraseIdx j)))
  | .extend, .ref r, [.ref q] => getL h r fun ys => getL h q fun zs => ys.length + zs.length ≤ big ∧ F .non (h.set r (.lst (ys ++ zs)))
  | .clear, .ref r, [] => getL h r fun _ => F .non (h.set r (.lst []))
  | .count, .ref r, [v] => getL h r fun ys => ∃ d ds, dat h 59 v = some d ∧ SeqAt.shaped d = true ∧ datAll (dat h 59) ys = some ds ∧ PyData.canLayAll0 ds = true ∧ F (.int ((ds.countP fun z => PyData.eqv z d : Nat) : Int)) h
  | _, _, _ => False

/-! ### methods of texts, with one argument -/
inductive SM where
  | join | index
  deriving DecidableEq
def isS (x : PV) : Prop := match x with | .str _ => True | _ => False
/-- texts, one behind the other, a text between them -/
def joinZ (a : Str) (ys : List Str) : Str := PySem.Txt.join a ys
def smW (m : SM) (x y : PV) (h : Hep) (F : KQ) : Prop := match m, x with
  | .join, .str a => seqW h y fun ys => ∃ ss, strsOf ys = some ss ∧ (ss.map (·.length)).sum + ss.length * a.length ≤ big ∧ F (.str (joinZ a ss)) h
  | .index, .str a => (match y with | .str b => ∃ (i : Nat) (rest : List Nat), Builtin.Str.occurrences a b 0 a.length 1 = i :: rest ∧ F (.int i) h | _ => False)
  | _, _ => False

/-! ### instances -/
/-- what a body may call: a def, a method, a class; or a class's fields by name -/
inductive Cn where
  | fn (x : Str) | me (c m : Str) | mk (c : Str) | cl (c : Str) (fs : List Str) | er (c : Str) | xs (rs ts : List Str) | ei (c f : Str) | xf (c f : Str) | gd
  deriving DecidableEq
instance : Coe String Cn := ⟨fun s => .fn (Str.ofString s)⟩
def putZ (f : Str) (v : PV) : List (Str × PV) → List (Str × PV)
  | [] => [(f, v)]
  | (g, x) :: r => if g = f then (g, v) :: r else (g, x) :: putZ f v r
def fldW (h : Hep) (x : PV) (c f : Str) (F : PV → Prop) : Prop := match x with
  | .ref r => getO h r fun c' fs => c' = c ∧ ∃ v, fs.lookup f = some v ∧ F v
  | _ => False
def insW (h : Hep) (x : PV) (c m : Str) : Prop := match x with
  | .ref r => getO h r fun c' fs => c' = c ∧ fs.lookup m = none
  | _ => False
def stfW (x v : PV) (c f : Str) (h : Hep) (G : Hep → Prop) : Prop := match x with
  | .ref r => getO h r fun c' fs => c' = c ∧ fs.length < 1000 ∧ G (h.set r (.ins c (putZ f v fs)))
  | _ => False

/-! ### exceptions -/
/-- is an instance of the error class a one of c? The program's own error classes lie flat below PlanError, that one below ValueError. -/
def subX (a c : Str) : Bool := a == c || c == ("PlanError" : Str) || c == ("ValueError" : Str)
/-- isinstance(x, c) of a kept exception, one of rs -/
def isxW (x : PV) (rs : List Str) (c : Str) (K : Bool → Prop) : Prop := match x with
  | .exc a _ _ => a ∈ rs ∧ K (subX a c)
  | _ => False
/-- isinstance(x, (c1, c2, ..)) of a kept exception, one of rs -/
def isxsW (x : PV) (rs cs : List Str) (K : Bool → Prop) : Prop := match x with
  | .exc a _ _ => a ∈ rs ∧ K (cs.any (subX a))
  | _ => False
def fldxW (x : PV) (c f : Str) (F : PV → Prop) : Prop := match x with
  | .exc a ns vs => a = c ∧ ∃ v, (ns.zip vs).lookup f = some v ∧ F v
  | _ => False
def keptV (x : XV) : PV := .exc x.cls (x.fs.map (·.1)) (x.fs.map (·.2))

/-! ### the language -/
inductive Tg where
  | nm (i : Nat) | tp (ts : List Tg)
inductive Ex where
  | var (i : Nat) | non | bl (b : Bool) | int (i : Int) | str (s : Str)
  | con (x : Str) (v : PV)
  | bin (o : Operator) (a b : Ex) | neg (a : Ex) | not (a : Ex) | and (a b : Ex) | or (a b : Ex) | ife (c a b : Ex)
  | cmp (o : CmpOp) (a b : Ex) | chn (o o' : CmpOp) (a b c : Ex) | chn3 (o o' o'' : CmpOp) (a b c d : Ex)
  | tup (es : List Ex) | lst (es : List Ex) | dct
  | idx (a i : Ex) | slc (a : Ex) (lo hi : Option Ex)
  | call (f : Nat) (es : List Ex) | bi (b : BI) (es : List Ex) | mi (m : MI) (a : Ex) (es : List Ex)
  | isi (a : Ex) (t : IT) | isx (a : Ex) (rs : List Str) (c : Str) | isxs (a : Ex) (rs cs : List Str)
  | mdf (mx : Bool) (a : Ex) | rev (a : Ex)
  | xtp (es : List Ex) | dg1 (a k : Ex) | stp (a k : Ex) | dg2 (a k d : Ex) | sm (m : SM) (a b : Ex) | dcd (ks : List At) (es : List Ex) | fldx (a : Ex) (c f : Str) | rep (a : Ex) | lck (i : Nat) (e : Ex) | lka (e : Ex)
  | fld (a : Ex) (c f : Str) | mth (i : Nat) (c m : Str) (a : Ex) (es : List Ex) | new (i : Nat) (c : Str) (es : List Ex)
  | comp (own : List Nat) (t : Tg) (it : Ex) (c : Option Ex) (e : Ex)
  -- what is only walked
  | wlk (a : Ex) | rng1 (a : Ex) | rng2 (a b : Ex) | rng3 (a b c : Ex) | enum (a : Ex) | zip (a b : Ex) | wld (i : Nat) | wlx (a : Ex) | rvs (a : Ex) | zipn (a b : Ex)

/-! ### storing at targets -/
mutual
def tgt : Tg → PV → Env → Option Env
  | .nm i, v, σ => some (σ.set i (some v))
  | .tp ts, .tup xs, σ => tgts ts xs σ
  | .tp ts, .itp xs, σ => tgts ts xs σ
  | .tp _, _, _ => none
def tgts : List Tg → List PV → Env → Option Env
  | [], [], σ => some σ
  | t :: ts, x :: xs, σ => match tgt t x σ with | some σ' => tgts ts xs σ' | none => none
  | _, _, _ => none
end
def wipeZ (σ : Env) : List Nat → Env
  | [] => σ
  | v :: vs => (wipeZ σ vs).set v none

/-- what a walk leans on: lists that stand as they are -/
abbrev Grd := List (Nat × Ob)
def grdOk (h : Hep) : Grd → Prop
  | [] => True
  | (r, o) :: g => h[r]? = some o ∧ grdOk h g
def walkW (h : Hep) (x : PV) (F : List PV → Grd → Prop) : Prop := match x with
  | .tup xs => F xs []
  | .itp xs => F xs []
  | .ils xs => F xs []
  | .ref r => getL h r fun xs => F xs [(r, .lst xs)]
  | .str s => F (signsOf s) []
  | _ => False
def enumL : Nat → List PV → List PV
  | _, [] => []
  | i, x :: r => .tup [.int i, x] :: enumL (i + 1) r
def zipL : List PV → List PV → List PV
  | x :: xs, y :: ys => .tup [x, y] :: zipL xs ys
  | _, _ => []
def rngC (lo c : Int) (n : Nat) : List PV := (List.range n).map fun (i : Nat) => PV.int (lo + (i : Int) * c)
def rngL (lo : Int) (n : Nat) : List PV := (List.range n).map fun (i : Nat) => PV.int (lo + i)

/-- a comprehension's turns -/
def wComp (g : Grd) (t : Tg) (c : Env → Hep → KB → Prop) (e : Env → Hep → KQ → Prop) (σ : Env) : List PV → List PV → Hep → (List PV → Hep → Prop) → Prop
  | [], acc, h, F => grdOk h g ∧ F acc h
  | x :: r, acc, h, F => grdOk h g ∧ match tgt t x σ with
    | some σ' => c σ' h fun b h1 => if b = true then e σ' h1 fun y h2 => acc.length < big ∧ wComp g t c e σ r (acc ++ [y]) h2 F else wComp g t c e σ r acc h1 F
    | none => False

mutual
def wE (Γ : List Spec) : Ex → Env → Hep → KQ → KX → Prop
  | .var i, σ, h, F, _ => (match σ[i]? with | some (some v) => F v h | _ => False)
  | .non, _, h, F, _ => F .non h
  | .bl b, _, h, F, _ => F (.bl b) h
  | .int i, _, h, F, _ => F (.int i) h
  | .str s, _, h, F, _ => F (.str s) h
  | .con _ v, _, h, F, _ => F v h
  | .bin o a b, σ, h, F, E => wE Γ a σ h (fun x h1 => wE Γ b σ h1 (fun y h2 => binW o x y h2 F) E) E
  | .neg a, σ, h, F, E => wE Γ a σ h (fun x h1 => match x with | .int i => F (.int (-i)) h1 | _ => False) E
  | .not a, σ, h, F, E => wE Γ a σ h (fun x h1 => truW h1 x fun b => F (.bl (!b)) h1) E
  | .and a b, σ, h, F, E => wE Γ a σ h (fun x h1 => truW h1 x fun t => if t = true then wE Γ b σ h1 F E else F x h1) E
  | .or a b, σ, h, F, E => wE Γ a σ h (fun x h1 => truW h1 x fun t => if t = true then F x h1 else wE Γ b σ h1 F E) E
  | .ife c a b, σ, h, F, E => wE Γ c σ h (fun x h1 => truW h1 x fun t => if t = true then wE Γ a σ h1 F E else wE Γ b σ h1 F E) E
  | .cmp o a b, σ, h, F, E => wE Γ a σ h (fun x h1 => wE Γ b σ h1 (fun y h2 => cmpW o x y h2 fun t => F (.bl t) h2) E) E
  | .chn o o' a b c, σ, h, F, E => wE Γ a σ h (fun x h1 => wE Γ b σ h1 (fun y h2 => cmpW o x y h2 fun t => if t = true then wE Γ c σ h2 (fun z h3 => cmpW o' y z h3 fun u => F (.bl u) h3) E else F (.bl false) h2) E) E
  | .chn3 o o' o'' a b c d, σ, h, F, E => wE Γ a σ h (fun x h1 => wE Γ b σ h1 (fun y h2 => cmpW o x y h2 fun t => if t = true then wE Γ c σ h2 (fun z h3 => cmpW o' y z h3 fun u => if u = true then wE Γ d σ h3 (fun w h4 => cmpW o'' z w h4 fun u => F (.bl u) h4) E else F (.bl false) h3) E else F (.bl false) h2) E) E
  | .tup es, σ, h, F, E => wEs Γ es σ h (fun xs h1 => xs.length ≤ big ∧ F (.tup xs) h1) E
  | .lst es, σ, h, F, E => wEs Γ es σ h (fun xs h1 => xs.length ≤ big ∧ F (.ref h1.length) (h1 ++ [.lst xs])) E
  | .dct, _, h, F, _ => F (.ref h.length) (h ++ [.dic []])
  | .idx a i, σ, h, F, E => wE Γ a σ h (fun x h1 => wE Γ i σ h1 (fun y h2 => itemW x y h2 F) E) E
  | .slc a lo hi, σ, h, F, E => wE Γ a σ h (fun x h1 => wO Γ lo σ h1 (fun l h2 => wO Γ hi σ h2 (fun u h3 => sliceW x l u h3 F) E) E) E
  | .call f es, σ, h, F, E => wEs Γ es σ h (fun xs h1 => match Γ[f]? with | some S => S xs h1 F E | none => False) E
  | .bi b es, σ, h, F, E => wEs Γ es σ h (fun xs h1 => biW b xs h1 F) E
  | .mi m a es, σ, h, F, E => wE Γ a σ h (fun x h1 => isL h1 x ∧ wEs Γ es σ h1 (fun xs h2 => miW m x xs h2 F) E) E
  | .isi a t, σ, h, F, E => wE Γ a σ h (fun x h1 => isT t h1 x fun b => F (.bl b) h1) E
  | .isxs a rs cs, σ, h, F, E => wE Γ a σ h (fun x h1 => isxsW x rs cs fun b => F (.bl b) h1) E
  | .isx a rs c, σ, h, F, E => wE Γ a σ h (fun x h1 => isxW x rs c fun b => F (.bl b) h1) E
  | .mdf mx a, σ, h, F, E => wE Γ a σ h (fun x h1 => listW h1 x fun ys => ∃ ns, intsOf ys = some ns ∧ F (if ns = [] then .non else .int (if mx = true then maxL ns else minL ns)) h1) E
  | .rev a, σ, h, F, E => wE Γ a σ h (fun x h1 => revW x h1 F) E
  | .xtp es, σ, h, F, E => wEs Γ es σ h (fun xs h1 => xs.length ≤ big ∧ F (.itp xs) h1) E
  | .stp a k, σ, h, F, E => wE Γ a σ h (fun x h1 => wE Γ k σ h1 (fun y h2 => stpW x y h2 F) E) E
  | .dg1 a k, σ, h, F, E => wE Γ a σ h (fun x h1 => isD h1 x ∧ wE Γ k σ h1 (fun y h2 => dgetW h2 x y fun o => F (o.getD .non) h2) E) E
  | .dg2 a k d, σ, h, F, E => wE Γ a σ h (fun x h1 => isD h1 x ∧ wE Γ k σ h1 (fun y h2 => wE Γ d σ h2 (fun z h3 => dgetW h3 x y fun o => F (o.getD z) h3) E) E) E
  | .sm m a b, σ, h, F, E => wE Γ a σ h (fun x h1 => isS x ∧ wE Γ b σ h1 (fun y h2 => smW m x y h2 F) E) E
  | .dcd ks es, σ, h, F, E => wEs Γ es σ h (fun xs h1 => F (.ref h1.length) (h1 ++ [.dic (dputs [] (ks.zip xs))])) E
  | .rep a, σ, h, F, E => wE Γ a σ h (fun x h1 => ∃ d, dat h1 59 x = some d ∧ SeqAt.shaped d = true ∧ d.showable = true ∧ d.shown.length ≤ big ∧ F (.str d.shown) h1) E
  | .fldx a c f, σ, h, F, E => wE Γ a σ h (fun x h1 => fldxW x c f fun v => F v h1) E
  | .fld a c f, σ, h, F, E => wE Γ a σ h (fun x h1 => fldW h1 x c f fun v => F v h1) E
  | .mth i c m a es, σ, h, F, E => wE Γ a σ h (fun x h1 => insW h1 x c m ∧ wEs Γ es σ h1 (fun xs h2 => match Γ[i]? with | some S => S (x :: xs) h2 F E | none => False) E) E
  | .new i c es, σ, h, F, E => wEs Γ es σ h (fun xs h1 => match Γ[i]? with | some S => S (.ref h1.length :: xs) (h1 ++ [.ins c []]) (fun v h2 => v = .non ∧ F (.ref h1.length) h2) E | none => False) E
  | .comp own t it c e, σ, h, F, E => wI Γ it σ h (fun items g h1 => wComp g t (fun σ' h' G => wC Γ c σ' h' G) (fun σ' h' G => wE Γ e σ' h' G noX) (wipeZ σ own) items [] h1 fun acc h2 => F (.ref h2.length) (h2 ++ [.lst acc])) E
  | .lck i e, σ, h, F, _ => (match σ[i]? with
    | some (some (.ref r)) => getD h r fun kvs => ∀ u : L2.HO, wE Γ e σ (h.set r (.ldc u kvs)) (fun x h1 => h1[r]? = some (.ldc u kvs) ∧ F x (h1.set r (.dic kvs))) noX
    | _ => False)
  | .lka e, σ, h, F, _ => ∃ (r : Nat) (kvs : List (Ky × PV)), h[r]? = some (.dic kvs) ∧ ∀ u : L2.HO, wE Γ e σ (h.set r (.ldc u kvs)) (fun x h1 => h1[r]? = some (.ldc u kvs) ∧ F x (h1.set r (.dic kvs))) noX
  | .wld _, _, _, _, _ => False
  | .wlx _, _, _, _, _ => False
  | .rvs _, _, _, _, _ => False
  | .wlk _, _, _, _, _ => False
  | .rng1 _, _, _, _, _ => False
  | .rng2 _ _, _, _, _, _ => False
  | .rng3 _ _ _, _, _, _, _ => False
  | .enum _, _, _, _, _ => False
  | .zip _ _, _, _, _, _ => False
  | .zipn _ _, _, _, _, _ => False
termination_by structural e => e
def wEs (Γ : List Spec) : List Ex → Env → Hep → (List PV → Hep → Prop) → KX → Prop
  | [], _, h, F, _ => F [] h
  | e :: es, σ, h, F, E => wE Γ e σ h (fun x h1 => wEs Γ es σ h1 (fun xs h2 => F (x :: xs) h2) E) E
termination_by structural e => e
def wO (Γ : List Spec) : Option Ex → Env → Hep → (Option Int → Hep → Prop) → KX → Prop
  | none, _, h, F, _ => F none h
  | some e, σ, h, F, E => wE Γ e σ h (fun x h1 => match x with | .int i => F (some i) h1 | _ => False) E
termination_by structural e => e
/-- a comprehension's condition -/
def wC (Γ : List Spec) : Option Ex → Env → Hep → KB → Prop
  | none, _, h, F => F true h
  | some e, σ, h, F => wE Γ e σ h (fun x h1 => truW h1 x fun b => F b h1) noX
termination_by structural e => e
/-- what is walked -/
def wI (Γ : List Spec) : Ex → Env → Hep → (List PV → Grd → Hep → Prop) → KX → Prop
  | .rng1 a, σ, h, F, E => wE Γ a σ h (fun x h1 => match x with | .int j => -(2 ^ 62) ≤ j ∧ j < 2 ^ 62 ∧ F (rngL 0 j.toNat) [] h1 | _ => False) E
  | .rng2 a b, σ, h, F, E => wE Γ a σ h (fun x h1 => wE Γ b σ h1 (fun y h2 => match x, y with
    | .int i, .int j => -(2 ^ 62) ≤ i ∧ i < 2 ^ 62 ∧ -(2 ^ 62) ≤ j ∧ j < 2 ^ 62 ∧ F (rngL i (j - i).toNat) [] h2
    | _, _ => False) E) E
  | .rng3 a b c, σ, h, F, E => wE Γ a σ h (fun x h1 => wE Γ b σ h1 (fun y h2 => wE Γ c σ h2 (fun z h3 => match x, y, z with
    | .int i, .int j, .int k => ∃ n, L2.RgC i j k n ∧ F (rngC i k n) [] h3
    | _, _, _ => False) E) E) E
  | .enum a, σ, h, F, E => wE Γ a σ h (fun x h1 => seqW h1 x fun xs => walkW h1 x fun _ g => F (enumL 0 xs) g h1) E
  | .zip a b, σ, h, F, E => wE Γ a σ h (fun x h1 => wE Γ b σ h1 (fun y h2 => seqW h2 x fun xs => seqW h2 y fun ys => walkW h2 x fun _ g => walkW h2 y fun _ g' => F (zipL xs ys) (g ++ g') h2) E) E
  | .zipn a b, σ, h, F, E => wE Γ a σ h (fun x h1 => wE Γ b σ h1 (fun y h2 => match x, y with
    | .ref i, .ref j => getL h2 i fun xs => getL h2 j fun ys => F (zipL xs ys) [(i, .lst xs), (j, .lst ys)] h2
    | _, _ => False) E) E
  | .rvs a, σ, h, F, E => wE Γ a σ h (fun x h1 => match x with
    | .ref r => getL h1 r fun xs => F xs.reverse [(r, .lst xs)] h1
    | _ => False) E
  | .wlk a, σ, h, F, E => wE Γ a σ h (fun x h1 => walkW h1 x fun xs g => F xs g h1) E
  | .wld i, σ, h, F, _ => (match σ[i]? with
    | some (some (.ref r)) => (match h[r]? with | some (.ldc u kvs) => F (kvs.map fun p => keyV p.1) [(r, .ldc u kvs)] h | _ => False)
    | _ => False)
  | .wlx a, σ, h, F, E => wE Γ a σ h (fun x h1 => match x with
    | .ref r => (match h1[r]? with | some (.ldc u kvs) => F (kvs.map fun p => keyV p.1) [(r, .ldc u kvs)] h1 | _ => False)
    | _ => False) E
  | _, _, _, _, _ => False
termination_by structural e => e
end
/-- a test -/
def wT (Γ : List Spec) (e : Ex) (σ : Env) (h : Hep) (F : KB) (E : KX) : Prop := wE Γ e σ h (fun x h1 => truW h1 x fun b => F b h1) E

/-! ### statements -/
inductive Sm where
  | set (t : Tg) (e : Ex) | par (i j : Nat) (a b : Ex) | par3 (i j l : Nat) (a b c : Ex) | sto (o i e : Ex)
  | augi (a i : Ex) (o : Operator) (e : Ex) | aug (i : Nat) (o : Operator) (e : Ex) | stf (o : Ex) (c f : Str) (e : Ex)
  | exp (e : Ex) | ret (e : Ex) | retN
  | ife (c : Ex) (a b : List Sm) | whl (c : Ex) (b : List Sm) | for_ (t : Tg) (it : Ex) (b : List Sm)
  | rai (c : Str) | raf (c f : Str) (e : Ex) | tryk (b : List Sm) (cs : List Str) (c : Str) (i j : Nat)
  | lcs (i : Nat) (s : Sm)
  | brk | cnt | pss | doc | nev

structure Dz where
  nx : Env → Hep → Prop
  rt : KQ
  bk : Env → Hep → Prop := fun _ _ => False
  ct : Env → Hep → Prop := fun _ _ => False
  ex : XV → Env → Hep → Prop := fun _ _ _ => False

/-- a loop's turns -/
def wFor (g : Grd) (t : Tg) (b : Env → Hep → Dz → Prop) : List PV → Env → Hep → Dz → Prop
  | [], σ, h, D => grdOk h g ∧ D.nx σ h
  | x :: r, σ, h, D => grdOk h g ∧ match tgt t x σ with
    | some σ' => b σ' h { D with nx := fun σ2 h2 => wFor g t b r σ2 h2 D, ct := fun σ2 h2 => wFor g t b r σ2 h2 D, bk := D.nx }
    | none => False

mutual
def wS (Γ : List Spec) : Sm → Env → Hep → Dz → Prop
  | .set t e, σ, h, D => wE Γ e σ h (fun x h1 => match tgt t x σ with | some σ' => D.nx σ' h1 | none => False) fun x h1 => D.ex x σ h1
  | .par i j a b, σ, h, D => wE Γ a σ h (fun x h1 => wE Γ b σ h1 (fun y h2 => D.nx ((σ.set i (some x)).set j (some y)) h2) fun x h1 => D.ex x σ h1) fun x h1 => D.ex x σ h1
  | .par3 i j l a b c, σ, h, D => wE Γ a σ h (fun x h1 => wE Γ b σ h1 (fun y h2 => wE Γ c σ h2 (fun z h3 => D.nx (((σ.set i (some x)).set j (some y)).set l (some z)) h3) fun x h1 => D.ex x σ h1) fun x h1 => D.ex x σ h1) fun x h1 => D.ex x σ h1
  | .sto o i e, σ, h, D => wE Γ e σ h (fun v h1 => wE Γ o σ h1 (fun x h2 => wE Γ i σ h2 (fun y h3 => storeW x y v h3 fun h4 => D.nx σ h4) fun x h1 => D.ex x σ h1) fun x h1 => D.ex x σ h1) fun x h1 => D.ex x σ h1
  | .stf o c f e, σ, h, D => wE Γ e σ h (fun v h1 => wE Γ o σ h1 (fun x h2 => stfW x v c f h2 fun h3 => D.nx σ h3) fun x h1 => D.ex x σ h1) fun x h1 => D.ex x σ h1
  | .augi a i o e, σ, h, D => wE Γ a σ h (fun x h1 => wE Γ i σ h1 (fun y h2 => match x, y with
    | .ref r, .int j => getL h2 r fun xs => 0 ≤ j ∧ ∃ m, xs[j.toNat]? = some (.int m) ∧ wE Γ e σ h2 (fun v h3 => match v with
      | .int n => (o = .Add ∧ storeW (.ref r) (.int j) (.int (m + n)) h3 fun h4 => D.nx σ h4) ∨ (o = .Sub ∧ storeW (.ref r) (.int j) (.int (m - n)) h3 fun h4 => D.nx σ h4)
      | _ => False) fun x h1 => D.ex x σ h1
    | _, _ => False) fun x h1 => D.ex x σ h1) fun x h1 => D.ex x σ h1
  | .aug i o e, σ, h, D => (match σ[i]? with
    | some (some x) => wE Γ e σ h (fun y h1 => match x, y with
      | .int a, .int b => (o = .Add ∧ D.nx (σ.set i (some (.int (a + b)))) h1) ∨ (o = .Sub ∧ D.nx (σ.set i (some (.int (a - b)))) h1)
      | _, _ => False) fun x h1 => D.ex x σ h1
    | _ => False)
  | .exp e, σ, h, D => wE Γ e σ h (fun _ h1 => D.nx σ h1) fun x h1 => D.ex x σ h1
  | .ret e, σ, h, D => wE Γ e σ h D.rt fun x h1 => D.ex x σ h1
  | .retN, _, h, D => D.rt .non h
  | .ife c a b, σ, h, D => wE Γ c σ h (fun x h1 => truW h1 x fun t => if t = true then wSs Γ a σ h1 D else wSs Γ b σ h1 D) fun x h1 => D.ex x σ h1
  | .whl c b, σ, h, D => ∃ W : Nat → Env → Hep → Prop, (∃ m, W m σ h) ∧ ∀ m σ h, W m σ h →
      wE Γ c σ h (fun x h1 => truW h1 x fun t => if t = true then wSs Γ b σ h1 { D with nx := fun σ2 h2 => ∃ m', m' < m ∧ W m' σ2 h2, ct := fun σ2 h2 => ∃ m', m' < m ∧ W m' σ2 h2, bk := D.nx } else D.nx σ h1) fun x h1 => D.ex x σ h1
  | .for_ t it b, σ, h, D => wI Γ it σ h (fun items g h1 => wFor g t (fun σ' h' D' => wSs Γ b σ' h' D') items σ h1 D) fun x h1 => D.ex x σ h1
  | .rai c, σ, h, D => D.ex ⟨c, []⟩ σ h
  | .raf c f e, σ, h, D => wE Γ e σ h (fun v h1 => D.ex ⟨c, [(f, v)]⟩ σ h1) fun x h1 => D.ex x σ h1
  | .tryk b cs c i j, σ, h, D => wSs Γ b σ h { D with ex := fun x σ' h' => x.cls ∈ cs ∧ if subX x.cls c = true then D.nx ((σ'.set j (some (keptV x))).set i none) h' else D.ex x σ' h' }
  | .lcs i s, σ, h, D => (match σ[i]? with
    | some (some (.ref r)) => getD h r fun kvs => ∀ u : L2.HO, wS Γ s σ (h.set r (.ldc u kvs)) { nx := fun σ' h' => h'[r]? = some (.ldc u kvs) ∧ D.nx σ' (h'.set r (.dic kvs)), rt := fun x h' => h'[r]? = some (.ldc u kvs) ∧ D.rt x (h'.set r (.dic kvs)), bk := fun σ' h' => h'[r]? = some (.ldc u kvs) ∧ D.bk σ' (h'.set r (.dic kvs)), ct := fun σ' h' => h'[r]? = some (.ldc u kvs) ∧ D.ct σ' (h'.set r (.dic kvs)) }
    | _ => False)
  | .brk, σ, h, D => D.bk σ h
  | .cnt, σ, h, D => D.ct σ h
  | .pss, σ, h, D => D.nx σ h
  | .doc, σ, h, D => D.nx σ h
  | .nev, _, _, _ => False
termination_by structural s => s
def wSs (Γ : List Spec) : List Sm → Env → Hep → Dz → Prop
  | [], σ, h, D => D.nx σ h
  | s :: r, σ, h, D => wS Γ s σ h { D with nx := fun σ' h' => wSs Γ r σ' h' D }
termination_by structural s => s
end
end Z

/-! Zh: rules of the hand layer's kind that it lacks: chains of three, sorted over data, sorted(set(..)) of whole numbers, min and max with default=. -/
namespace Zh
open PySem PySem.Spec PyProof.Rows L2

section
variable {X : Cx} {a b c d : Expr} {ta tb tc td : TE} {pos : Pos}
/-! ### chains of three -/
def tChain3 (r r' r'' : R2) (ta tb tc td : TE) : TE := fun σ H Q => ta σ H fun x H1 => tb σ H1 fun y H2 => r x y H2 fun z H3 => ∃ k, z = .bl k ∧ (if k = true then tc σ H3 fun w' H4 => r' y w' H4 fun z H5 => ∃ k, z = .bl k ∧ (if k = true then td σ H5 fun v' H6 => r'' w' v' H6 Q else Q (.bl false) H5) else Q (.bl false) H3)
theorem pe_chain3 {op op' op'' : CmpOp} {r r' r'' : R2} (ho : OpR X (compareOp op) r) (ho' : OpR X (compareOp op') r') (ho'' : OpR X (compareOp op'') r'') (ha : PE X a ta) (hb : PE X b tb) (hc : PE X c tc) (hd : PE X d td)
    (hm : lastMarks [op, op', op''] [b, c, d] = false) : PE X (.Compare a [op, op', op''] [b, c, d] pos) (tChain3 r r' r'' ta tb tc td) := by
  refine ⟨fun pins s σ H Q I h => ?_⟩
  refine Compare_chain (thn (ha.run pins s σ H _ I h) fun v s1 ⟨x, H1, I1, r1, q1⟩ => chain_link (thn (hb.run pins s1 σ H1 _ I1 q1) fun u s2 ⟨y, H2, I2, r2, q2⟩ =>
    thn (ho pins s2 σ H2 x y v u _ I2 r1 r2 q2) fun dd s3 ⟨z, H3, I3, r3, k, e, q3⟩ => ?_)) hm
  subst e
  cases r3
  refine wpAny_truthy_bool ?_
  cases k with
  | false => exact ite_ff ⟨.bl false, H3, I3, rfl, q3⟩
  | true =>
    refine ite_tt (chain_link (thn (hc.run pins s3 σ H3 _ I3 q3) fun w' s4 ⟨z', H4, I4, r4, q4⟩ => thn (ho' pins s4 σ H4 y z' u w' _ I4 r2 r4 q4) fun d2 s5 ⟨z2, H5, I5, r5, k2, e2, q5⟩ => ?_))
    subst e2
    cases r5
    refine wpAny_truthy_bool ?_
    cases k2 with
    | false => exact ite_ff ⟨.bl false, H5, I5, rfl, q5⟩
    | true => exact ite_tt (chain_last (thn (hd.run pins s5 σ H5 _ I5 q5) fun w2 s6 ⟨z3, H6, I6, r6, q6⟩ => ho'' pins s6 σ H6 z' z3 w' w2 Q I6 r4 r6 q6))
theorem pt_chain3 {op op' op'' : CmpOp} {r r' r'' : R2} (ho : OpR X (compareOp op) r) (ho' : OpR X (compareOp op') r') (ho'' : OpR X (compareOp op'') r'') (ha : PE X a ta) (hb : PE X b tb) (hc : PE X c tc) (hd : PE X d td)
    (hm : lastMarks [op, op', op''] [b, c, d] = false) : PT X (.Compare a [op, op', op''] [b, c, d] pos) (tTest (tChain3 r r' r'' ta tb tc td)) := by
  refine ⟨fun pins s σ H Q I h => ?_⟩
  refine isTrue_chain (thn (ha.run pins s σ H _ I h) fun v s1 ⟨x, H1, I1, r1, q1⟩ => test_link (thn (hb.run pins s1 σ H1 _ I1 q1) fun u s2 ⟨y, H2, I2, r2, q2⟩ =>
    thn (ho pins s2 σ H2 x y v u _ I2 r1 r2 q2) fun dd s3 ⟨z, H3, I3, r3, k, e, q3⟩ => ?_)) hm
  subst e
  cases r3
  refine wpAny_truthy_bool ?_
  cases k with
  | false =>
    obtain ⟨k', e', q'⟩ := q3
    cases e'
    exact ite_ff ⟨H3, I3, q'⟩
  | true =>
    refine ite_tt (test_link (thn (hc.run pins s3 σ H3 _ I3 q3) fun w' s4 ⟨z', H4, I4, r4, q4⟩ => thn (ho' pins s4 σ H4 y z' u w' _ I4 r2 r4 q4) fun d2 s5 ⟨z2, H5, I5, r5, k2, e2, q5⟩ => ?_))
    subst e2
    cases r5
    refine wpAny_truthy_bool ?_
    cases k2 with
    | false =>
      obtain ⟨k', e', q'⟩ := q5
      cases e'
      exact ite_ff ⟨H5, I5, q'⟩
    | true =>
      refine ite_tt (test_last (thn (hd.run pins s5 σ H5 _ I5 q5) fun w2 s6 ⟨z3, H6, I6, r6, q6⟩ => thn (ho'' pins s6 σ H6 z' z3 w' w2 _ I6 r4 r6 q6) fun d3 s7 ⟨z4, H7, I7, r7, k3, e3, q7⟩ => ?_))
      subst e3
      cases r7
      exact wpAny_truthy_bool ⟨H7, I7, q7⟩

/-! ### sorted over data -/
open PySem.W (EachIs AllAlike Sortable dataLe)
theorem each_zip {α β : Type} {Rl : α → β → Prop} : ∀ {as : List α} {bs : List β}, EachIs Rl as bs → ∀ (i : Nat) (a : α), as[i]? = some a → ∃ b, bs[i]? = some b ∧ Rl a b
  | _, _, .nil, i, a, h => by simp at h
  | _, _, .cons r t, 0, a, h => by simp at h; subst h; exact ⟨_, rfl, r⟩
  | _, _, .cons r t, i + 1, a, h => each_zip t i a (by simpa using h)
theorem each_vals : ∀ {vs : List V} {us : List Value} {ds : List PyData}, Vals vs us → vs.length = ds.length → EachIs (fun u (p : V × PyData) => RelV p.1 u) us (vs.zip ds)
  | _, _, [], .nil, _ => .nil
  | _, _, d :: ds, .cons r t, h => .cons r (each_vals t (by simpa using h))
theorem vals_each : ∀ {us : List Value} {ps : List (V × PyData)}, EachIs (fun u (p : V × PyData) => RelV p.1 u) us ps → Vals (ps.map (·.1)) us
  | _, _, .nil => .nil
  | _, _, .cons r t => .cons r (vals_each t)
theorem each_reads {X : Cx} {pins : List (Addr × Obj)} {σ : L2.St} {H : Hp} {s : Shared} (I : Inv X pins σ H s) : ∀ {vs : List V} {us : List Value} {ds : List PyData}, Vals vs us → DpAll X.K H vs ds → EachIs (fun u (p : V × PyData) => ∃ as, Reads s.heap u p.2 as) us (vs.zip ds)
  | _, _, _, .nil, .nil => .nil
  | _, _, _, .cons r t, .cons d ds => .cons (Dp.reads I _ _ _ d r) (each_reads I t ds)
theorem dpAll_len {K : PySem.W.Frag} {H : Hp} : ∀ {vs : List V} {ds : List PyData}, DpAll K H vs ds → vs.length = ds.length
  | _, _, .nil => rfl
  | _, _, .cons _ t => by rw [List.length_cons, List.length_cons, dpAll_len t]
theorem zip_snd {α β : Type} : ∀ {as : List α} {bs : List β}, as.length = bs.length → (as.zip bs).map (·.2) = bs
  | [], [], _ => rfl
  | a :: as, b :: bs, h => by rw [List.zip_cons_cons, List.map_cons, zip_snd (by simpa using h)]
def sortV (ps : List (V × PyData)) : List V := (ps.mergeSort (dataLe false fun p => p.2)).map (·.1)
def rSortedD (K : PySem.W.Frag) : List V → Hp → VK → Prop := fun vs H Q => ∃ (a : Addr) (xs : List V) (ds : List PyData), vs = [V.ref a] ∧ SqL K H a xs ∧ DpAll K H xs ds ∧ AllAlike ds ∧ Sortable ds ∧ (∀ d ∈ ds, d.depth ≤ 60) ∧
  ∀ p, H p = none → Q (.ref p) (upd H p (.lst (sortV (xs.zip ds))))
theorem cr_sortedD {X : Cx} (hu : X.A.units + 65 < cLine) : CallR X (.builtin "sorted") (rSortedD X.K) := by
  intro pins s σ H vs us Q I r h
  obtain ⟨a, xs, ds, rfl, hs, hd, al, so, dp, q⟩ := h
  obtain ⟨its, rv, hl, hz⟩ := I.list hs
  rw [Vals.ref1 r]
  have hxd := dpAll_len hd
  have hlen : (sortV (xs.zip ds)).length = xs.length := by
    unfold sortV
    rw [List.length_map, List.length_mergeSort, List.length_zip, ← hxd, Nat.min_self]
  refine PySem.W.sorted_data (vs := its) (β := V × PyData) (R := fun u p => RelV p.1 u) (enc := fun p => p.2) (bs := xs.zip ds) hl.isList (each_vals rv hxd) (each_reads I rv hd) (by rw [zip_snd hxd]; exact al) (by rw [zip_snd hxd]; exact so) (by rw [List.length_zip, ← hxd, Nat.min_self]; exact hz)
    (fun b hb => ?_) fun out ho eo => ?_
  · have := dp b.2 (List.of_mem_zip (show (b.1, b.2) ∈ xs.zip ds from hb)).2
    omega
  · obtain ⟨ep, he'⟩ := PyProof.Rows.sortedAll_at s.heap its out.toArray
    exact ⟨.ref _, upd H (s.heap.objs.size + 1) (.lst (sortV (xs.zip ds))), I.laid (t' := s.toks) (fun _ _ => PyProof.Rows.sortedAll_old) (Nat.le_succ _) ⟨by rw [hlen]; exact hz, out, ep, vals_each eo, he'⟩, rfl, q _ (I.hok.fresh (Nat.le_succ _))⟩

/-! ### min, max with default= -/
open PySem.W (AlikeAll minD maxD alike_unique)
theorem minD_mem : ∀ (ys : List PyData) (y : PyData), minD y ys ∈ y :: ys
  | [], y => List.mem_cons_self
  | z :: ys, y => by
    show minD (if PySem.W.dataLt z y = true then z else y) ys ∈ _
    have h := minD_mem ys (if PySem.W.dataLt z y = true then z else y)
    rcases List.mem_cons.mp h with h | h
    · rw [h]
      split
      · exact List.mem_cons_of_mem _ List.mem_cons_self
      · exact List.mem_cons_self
    · exact List.mem_cons_of_mem _ (List.mem_cons_of_mem _ h)
theorem maxD_mem : ∀ (ys : List PyData) (y : PyData), maxD y ys ∈ y :: ys
  | [], y => List.mem_cons_self
  | z :: ys, y => by
    show maxD (if PySem.W.dataLt y z = true then z else y) ys ∈ _
    have h := maxD_mem ys (if PySem.W.dataLt y z = true then z else y)
    rcases List.mem_cons.mp h with h | h
    · rw [h]
      split
      · exact List.mem_cons_of_mem _ List.mem_cons_self
      · exact List.mem_cons_self
    · exact List.mem_cons_of_mem _ (List.mem_cons_of_mem _ h)
def best (mx : Bool) (y : PyData) (ys : List PyData) : PyData := if mx = true then maxD y ys else minD y ys
def mmName (mx : Bool) : String := if mx = true then "max" else "min"
theorem best_mem (mx : Bool) (y : PyData) (ys : List PyData) : best mx y ys ∈ y :: ys := by
  unfold best
  split
  · exact maxD_mem ys y
  · exact minD_mem ys y
/-- which item it is -/
theorem item_of {X : Cx} {pins : List (Addr × Obj)} {σ : L2.St} {H : Hp} {s : Shared} (I : Inv X pins σ H s) {xs : List V} {us : List Value} {ds : List PyData} (rv : Vals xs us) (hd : DpAll X.K H xs ds) {i : Nat} {u : Value} (hu : us[i]? = some u) {h' : Heap} (hk : ∀ b o, s.heap.get? b = some o → h'.get? b = some o) {d : PyData} {bs : List Addr} (rd : Reads h' u d bs) (al : ∀ x ∈ ds, PySem.W.alike x d = true) :
    ∃ v, xs[i]? = some v ∧ RelV v u ∧ ds[i]? = some d := by
  obtain ⟨v, hv, rr⟩ : ∃ v, xs[i]? = some v ∧ RelV v u := by
    have : ∀ {xs : List V} {us : List Value} {i : Nat}, Vals xs us → us[i]? = some u → ∃ v, xs[i]? = some v ∧ RelV v u := fun {xs us i} r => by
      induction r generalizing i with
      | nil => intro h; simp at h
      | cons r t ih =>
        intro h
        cases i with
        | zero => simp at h; subst h; exact ⟨_, rfl, r⟩
        | succ i => exact ih (by simpa using h)
    exact this rv hu
  have : ∀ {xs : List V} {ds : List PyData} {i : Nat} {v : V}, DpAll X.K H xs ds → xs[i]? = some v → ∃ e, ds[i]? = some e ∧ Dp X.K H v e := fun {xs} {ds} {i} {v} q => by
    intro h
    clear hd rd al
    induction xs generalizing i ds with
    | nil => simp at h
    | cons x xs ih =>
      cases q with
      | cons q1 q2 =>
        cases i with
        | zero => simp at h; subst h; exact ⟨_, rfl, q1⟩
        | succ i => exact ih (i := i) q2 (by simpa using h)
  obtain ⟨e, he, de⟩ := this hd hv
  obtain ⟨as, re⟩ := Dp.reads I _ _ _ de rr
  have := alike_unique e d u as bs (al e (List.mem_of_getElem? he)) (PyProof.Rows.Reads.keeps hk re) rd
  subst this
  exact ⟨v, hv, rr, he⟩
def rBest (mx : Bool) (K : PySem.W.Frag) : List V → List V → Hp → VK → Prop := fun vs zs H Q => ∃ (a : Addr) (xs : List V) (ds : List PyData) (z : V), vs = [V.ref a] ∧ zs = [z] ∧ SqL K H a xs ∧ DpAll K H xs ds ∧ AlikeAll ds ∧ PyData.depthAll ds ≤ 60 ∧ (ds = [] → Q z H) ∧
  ∀ (y : PyData) (ys : List PyData) (i : Nat) (v : V), ds = y :: ys → xs[i]? = some v → ds[i]? = some (best mx y ys) → Q v H
theorem cr_best {X : Cx} (mx : Bool) (hc : X.calm = true) (hu : X.A.units + 65 < cLine) : CallRK X (.builtin (mmName mx)) [Str.ofString "default"] (rBest mx X.K) := by
  intro pins s σ H vs zs us ws Q I r rz h
  obtain ⟨a, xs, ds, z, rfl, rfl, hs, hd, al, dp, h0, q⟩ := h
  obtain ⟨its, rv, hl, hz⟩ := I.list hs
  rw [Vals.ref1 r]
  obtain ⟨uz, rfl, rz'⟩ : ∃ u, ws = [u] ∧ RelV z u := by
    cases rz with
    | cons r t => cases t; exact ⟨_, rfl, r⟩
  obtain ⟨as, rd0⟩ := Dp.readsAll I _ _ _ hd rv
  cases mx with
  | false =>
    refine PySem.W.min_list_default (I.ok.hd hc) hl.isList (by simpa using rd0) al (by omega) (fun e h' tk hk => ⟨z, H, I.kept hk, rz', h0 e⟩) fun y ys i u h' tk bs e hi rd hk => ?_
    subst e
    obtain ⟨v, hv, rr, hdi⟩ := item_of I rv hd (by simpa using hi) hk rd fun x hx => al.1 x hx _ (minD_mem ys y)
    exact ⟨v, H, I.kept hk, rr, q y ys i v rfl hv hdi⟩
  | true =>
    refine PySem.W.max_list_default (I.ok.hd hc) hl.isList (by simpa using rd0) al (by omega) (fun e h' tk hk => ⟨z, H, I.kept hk, rz', h0 e⟩) fun y ys i u h' tk bs e hi rd hk => ?_
    subst e
    obtain ⟨v, hv, rr, hdi⟩ := item_of I rv hd (by simpa using hi) hk rd fun x hx => al.1 x hx _ (maxD_mem ys y)
    exact ⟨v, H, I.kept hk, rr, q y ys i v rfl hv hdi⟩
def rBest0 (mx : Bool) (K : PySem.W.Frag) : List V → Hp → VK → Prop := fun vs H Q => ∃ (a : Addr) (xs : List V) (y : PyData) (ys : List PyData), vs = [V.ref a] ∧ SqL K H a xs ∧ DpAll K H xs (y :: ys) ∧ AlikeAll (y :: ys) ∧ PyData.depthAll (y :: ys) ≤ 60 ∧
  ∀ (i : Nat) (v : V), xs[i]? = some v → (y :: ys)[i]? = some (best mx y ys) → Q v H
theorem cr_best0 {X : Cx} (mx : Bool) (hc : X.calm = true) (hu : X.A.units + 65 < cLine) : CallR X (.builtin (mmName mx)) (rBest0 mx X.K) := by
  intro pins s σ H vs us Q I r h
  obtain ⟨a, xs, y, ys, rfl, hs, hd, al, dp, q⟩ := h
  obtain ⟨its, rv, hl, hz⟩ := I.list hs
  rw [Vals.ref1 r]
  obtain ⟨as, rd0⟩ := Dp.readsAll I _ _ _ hd rv
  cases mx with
  | false =>
    refine PySem.W.min_list_data (I.ok.hd hc) hl.isList (by simpa using rd0) al (by omega) fun i u h' tk bs hi rd hk => ?_
    obtain ⟨v, hv, rr, hdi⟩ := item_of I rv hd (by simpa using hi) hk rd fun x hx => al.1 x hx _ (minD_mem ys y)
    exact ⟨v, H, I.kept hk, rr, q i v hv hdi⟩
  | true =>
    refine PySem.W.max_list_data (I.ok.hd hc) hl.isList (by simpa using rd0) al (by omega) fun i u h' tk bs hi rd hk => ?_
    obtain ⟨v, hv, rr, hdi⟩ := item_of I rv hd (by simpa using hi) hk rd fun x hx => al.1 x hx _ (maxD_mem ys y)
    exact ⟨v, H, I.kept hk, rr, q i v hv hdi⟩
end
/-! ### sorted(set(..)) of whole numbers -/
section
variable {P : Program} {w : World} {A : Around} {E : Value → Shared → Prop} {s : Shared}
def inS (ks : List Int) : Int → Bool := fun k => ks.any (· == k)
theorem inS_step (ks : List Int) (k : Int) : ∀ j, inS (step_dedup ks k) j = (inS ks j || decide (j = k)) := fun j => by
  unfold inS step_dedup
  by_cases h : ks.any (· == k) = true
  · rw [if_pos h]
    by_cases e : j = k
    · subst e; rw [h]; rfl
    · simp [e]
  · rw [if_neg h, List.any_append]
    congr 1
    simp only [List.any_cons, List.any_nil, Bool.or_false]
    by_cases e : j = k
    · subst e; simp
    · simp [e, Ne.symm e]
theorem len_step (ks : List Int) (k : Int) : (step_dedup ks k).length = if inS ks k = true then ks.length else ks.length + 1 := by
  unfold inS step_dedup
  by_cases h : ks.any (· == k) = true
  · rw [if_pos h, if_pos h]
  · rw [if_neg h, if_neg h, List.length_append]; rfl
theorem SetR.to {h : Heap} {a : Addr} {S S' : Int → Bool} {n n' : Nat} (R : SetR w h a S n) (e : ∀ k, S' k = S k) (e2 : n' = n) : SetR w h a S' n' := by
  subst e2; exact R.congr e
theorem set_update_ints {I : Addr} {fp wr : List Addr} {G : Array GenState → Array GenState → Prop} {n : Nat} {Pv : Nat → Value → Prop} {St : Nat → Shared → Prop} {R : Result → Shared → Prop}
    (W : WalksS P w A.in1 I fp wr G n Pv St) (S : Addr) (hSf : S ∉ fp) (val : Nat → Int) (hval : ∀ i v, Pv i v → ∃ t, v = .int (val i) t) (hb : n + 1 < scanBound) :
    ∀ (k i : Nat) (s : Shared), n - i = k → i ≤ n → St i s → SetR w s.heap S (inS (firstMet val i)) (firstMet val i).length →
      (∀ s', Moved (S :: wr) G s s' → SetR w s'.heap S (inS (firstMet val n)) (firstMet val n).length → R (.ok (.ret .none)) s') →
      codeAny (model P w) A (.builtin "set.update.loop" ⟨[.ref S, .ref I], []⟩) R s := by
  have hSw : S ∉ wr := fun h => hSf (W.sub _ h)
  have hsub : ∀ b ∈ wr, b ∈ S :: wr := fun b hb => List.mem_cons_of_mem _ hb
  intro k
  induction k with
  | zero =>
    intro i s hk hi hst hS hR
    have hin : i = n := by omega
    subst hin
    refine codeAny_builtin F.entry_set_update_loop ?_
    rw [Around.under_plainId F.plain_set_update_loop _]
    show wpAny _ A.in1 (pyNext (.ref I) >>= _) _ _ s
    refine wpAny_bind (W.done s _ _ hst fun s' hm => ?_)
    show wpAny _ A.in1 (ret Value.none) _ _ s'
    exact wpAny_pure (hR s' (hm.mono hsub) (hS.at fun o e => hm.heap S o hSw e))
  | succ k ih =>
    intro i s hk hi hst hS hR
    have hlt : i < n := by omega
    refine codeAny_builtin F.entry_set_update_loop ?_
    rw [Around.under_plainId F.plain_set_update_loop _]
    show wpAny _ A.in1 (pyNext (.ref I) >>= _) _ _ s
    refine wpAny_bind (W.item i s _ _ hlt hst fun v s' hP hst' hm => ?_)
    obtain ⟨t, rfl⟩ := hval i v hP
    have hS' : SetR w s'.heap S (inS (firstMet val i)) (firstMet val i).length := hS.at fun o e => hm.heap S o hSw e
    show wpAny _ A.in1 (holding [Value.int (val i) t] (setAdd S (.int (val i) t)) >>= _) _ _ s'
    refine wpAny_bind (wpAny_holding ?_)
    unfold setAdd
    refine wpAny_holding ?_
    refine wpAny_bind ((intKind P w).pyHash (k := val i) (intKind_is _ _ _ _) ?_)
    have hroom : (firstMet val i).length + 1 < scanBound := by have := firstMet_length_le val i; omega
    refine setR_add_hashed (s := { s' with toks := s'.toks + 1 }) hS' hroom fun h' hsb hS2 => ?_
    have hSi : SetR w h' S (inS (firstMet val (i + 1))) (firstMet val (i + 1)).length :=
      SetR.to hS2 (fun k' => by rw [firstMet_succ, inS_step]) (by rw [firstMet_succ, len_step])
    refine wpAny_pure ⟨plainId_quiet F.plain_set_update_loop _, ih (i + 1) _ (by omega) hlt (W.frame _ s' _ _ hst' (Nat.le_succ _) fun b hb o e => ?_) hSi fun s'' hm'' hS'' => ?_⟩
    · rw [hsb.2 b (fun h : b = S => hSf (by rw [← h]; exact hb))]; exact e
    · refine hR s'' (Moved.trans W.gtrans ((hm.mono hsub).then_heap (Nat.le_succ _) fun b o hb e => ?_) hm'') hS''
      rw [hsb.2 b (fun h : b = S => hb (by rw [h]; exact List.mem_cons_self))]; exact e
set_option maxRecDepth 100000 in
set_option maxHeartbeats 3200000 in
/-- set(xs) -/
theorem call_set_ints {l : Addr} {items : Array Value} {ns : List Int} {Q : Value → Shared → Prop} (hh : A.handled = none) (hl : s.heap.IsList l items) (hi : IntsAre items.toList ns) (hb : items.size + 1 < scanBound)
    (h : ∀ (h' : Heap) (tk : Nat), SetR w h' s.heap.objs.size (inS (firstMet (fun i => ns.getD i 0) items.size)) (firstMet (fun i => ns.getD i 0) items.size).length → (∀ b o, s.heap.get? b = some o → h'.get? b = some o) → Q (.ref s.heap.objs.size) { s with heap := h', toks := tk }) :
    wpAny (model P w) A (call (.type "set") [.ref l]) Q E s := by
  obtain ⟨c, tl, hmro⟩ := F.called_set.mro
  have hmade := F.called_set.made
  have hsub := F.called_set.sub
  refine wpAny_call (codeAny_of_tree ?_)
  show wpAny _ _ (callAny (.type "set") _) _ _ _
  refine wpAny_pure ⟨Code.quiet_builtin _ (by decide +kernel), codeAny_builtin F.entry_type_call ?_⟩
  rw [Around.under_plain (weight_type_call_type "set" [.ref l] []) rfl]
  have h1 := F.called_set.notType
  have h2 := F.called_set.canCreate
  have hct := F.typeCall_set_1 (.ref l)
  repeat (any_goals (first | assumption | wp_step))
  refine codeAny_mono (code_set_led1 (.ref l) (E := E) (Q₁ := fun obj s₁ => obj = .ref s.heap.objs.size ∧ s₁ = { s with heap := s.heap.push { cls := .type "set", dict := none, data := .set #[] 0 (.fresh 0 0 (!w.params.followText "set-order")) } }) ⟨rfl, rfl⟩) fun r s₁ hr => ?_
  cases r with
  | error e => exact hr
  | ok fl =>
    cases fl with
    | ret obj =>
      obtain ⟨rfl, rfl⟩ := hr
      have hS : (s.heap.push { cls := .type "set", dict := none, data := .set #[] 0 (.fresh 0 0 (!w.params.followText "set-order")) }).get? s.heap.objs.size = some { cls := .type "set", dict := none, data := .set #[] 0 (.fresh 0 0 (!w.params.followText "set-order")) } := Heap.get?_push_size _ rfl
      have hT : Shared.TypeIs { s with heap := s.heap.push { cls := .type "set", dict := none, data := .set #[] 0 (.fresh 0 0 (!w.params.followText "set-order")) } } (.ref s.heap.objs.size) "set" := ⟨_, hS, rfl⟩
      have hli := F.called_set.init.lookup
      have hbi := F.called_set.init.bind (.ref s.heap.objs.size)
      repeat (any_goals (first | assumption | wp_step))
      refine codeAny_mono (codeAny_call_builtin (R := wants (fun r s₂ => r = .none ∧ ∃ h' tk, s₂ = { s with heap := h', toks := tk } ∧ SetR w h' s.heap.objs.size (inS (firstMet (fun i => ns.getD i 0) items.size)) (firstMet (fun i => ns.getD i 0) items.size).length ∧
          (∀ b o, s.heap.get? b = some o → h'.get? b = some o)) E) F.called_set.init.plain F.entry_set_init (check_set_init_1 hT ?_)) fun r₂ s₂ hr₂ => ?_
      · obtain ⟨ol, hol, hcl, nl, hdl⟩ := hl
        obtain ⟨ocls, odict, odata, oslots⟩ := ol
        simp only at hcl hdl
        subst hcl; subst hdl
        have hol' : (s.heap.push { cls := .type "set", dict := none, data := .set #[] 0 (.fresh 0 0 (!w.params.followText "set-order")) }).get? l = some { cls := .type "list", dict := odict, data := .seq items nl, slots := oslots } := Heap.get?_push_of_some _ hol
        have hsls := F.sub_list_set
        have hslf := F.sub_list_frozenset
        have hne : (Value.type "list" == Value.type "dict") = false := by decide
        have hl1 : (s.heap.push { cls := .type "set", dict := none, data := .set #[] 0 (.fresh 0 0 (!w.params.followText "set-order")) }).IsList l items := ⟨_, hol', rfl, nl, rfl⟩
        unfold Builtin.«set.__init__» noKeywords Builtin.Frozenset.updateFrom
        generalize hPI : pyIter = PI
        wp_walk
        subst hPI
        refine wpAny_pyIter_list hl1 ?_
        refine wpAny_bind (wpAny_runValue ?_)
        have hlS : l < s.heap.objs.size := Heap.lt_size hol
        have hh3 : A.in1.in1.in1.handled = none := by simp [hh]
        have hneI : l ≠ (s.heap.push { cls := .type "set", dict := none, data := .set #[] 0 (.fresh 0 0 (!w.params.followText "set-order")) }).objs.size := by
          rw [Heap.size_push]; exact Nat.ne_of_lt (Nat.lt_succ_of_lt hlS)
        have hSf : s.heap.objs.size ∉ [(s.heap.push { cls := .type "set", dict := none, data := .set #[] 0 (.fresh 0 0 (!w.params.followText "set-order")) }).objs.size, l] := by
          rw [Heap.size_push]; simp only [List.mem_cons, List.mem_singleton, List.not_mem_nil, or_false, not_or]
          exact ⟨Nat.ne_of_lt (Nat.lt_succ_self _), Nat.ne_of_gt hlS⟩
        have hval : ∀ (i : Nat) (v : Value), items[i]? = some v → ∃ t, v = .int ((fun i => ns.getD i 0) i) t := fun i v hv =>
          PyProof.Rows.IntsAre.int_at hi i v (by rw [Array.getElem?_toList]; exact hv)
        refine set_update_ints ((Walks.list hh3 _ l hneI items).toS) s.heap.objs.size
          hSf (fun i => ns.getD i 0) hval hb (items.size - 0) 0 _ (by omega) (Nat.zero_le _)
          ⟨⟨_, Heap.get?_push_size _ rfl, rfl, rfl⟩, (hl1.push _)⟩ ?hS0 ?hR
        case hS0 =>
          exact SetR.to ((setR_fresh w).at fun o e => Heap.get?_push_of_some _ e) (fun k => rfl) rfl
        case hR =>
          intro s' hm hS'
          obtain ⟨h', g2, d', tk', os'⟩ := s'
          have eg : g2 = s.gens := hm.gens
          have ed : d' = s.drawn := hm.drawn
          have eo : os' = s.os := hm.os
          subst eg; subst ed; subst eo
          show wpAny _ _ _ _ _ _
          refine wpAny_pure ?_
          show wpAny _ _ (ret Value.none) _ _ _
          refine wpAny_pure ⟨rfl, h', tk', rfl, hS', fun b o e => ?_⟩
          have hb0 := Heap.lt_size e
          have hb1 : b ≠ s.heap.objs.size := Nat.ne_of_lt hb0
          have hb2 : b ≠ (s.heap.push { cls := .type "set", dict := none, data := .set #[] 0 (.fresh 0 0 (!w.params.followText "set-order")) }).objs.size := by
            rw [Heap.size_push]; exact Nat.ne_of_lt (Nat.lt_succ_of_lt hb0)
          exact hm.heap b o (by simp only [List.mem_cons, List.mem_singleton, List.not_mem_nil, or_false, not_or]; exact ⟨hb1, hb2⟩) (Heap.get?_push_of_some _ (Heap.get?_push_of_some _ e))
      · cases r₂ with
        | error e => exact hr₂
        | ok fl₂ =>
          cases fl₂ with
          | ret r =>
            obtain ⟨rfl, h', tk, rfl, hS', hk'⟩ := hr₂
            repeat (any_goals (first | assumption | wp_step))
            exact h _ _ hS' hk'
          | _ => exact hr₂.elim
    | _ => exact hr.elim
end
section
variable {X : Cx}
def rSetI (K : PySem.W.Frag) (w : World) : List V → Hp → VK → Prop := fun vs H Q => ∃ (l : Addr) (ns : List Int), vs = [V.ref l] ∧ SqL K H l (ns.map V.int) ∧ ns.length ≤ 4000 ∧
  ∀ p S n, H p = none → (∀ k, S k = true ↔ k ∈ ns) → (∀ U : List Int, (∀ k ∈ ns, k ∈ U) → n ≤ U.length) → n ≤ ns.length → Q (.ref p) (upd H p (SetO w p S n))
theorem ossOf_nodup (l : List Int) : (PySem.W.ossOf l).Nodup := by
  have : ∀ (l ks : List Int), ks.Nodup → (l.foldl step_dedup ks).Nodup := fun l => by
    induction l with
    | nil => intro ks h; exact h
    | cons a l ih =>
      intro ks h
      rw [List.foldl_cons]
      refine ih _ ?_
      rw [PySem.W.oss_step]
      split
      · exact h
      · rename_i n
        rw [List.nodup_append]
        exact ⟨h, by simp, fun x hx y hy => by rw [List.mem_singleton.mp hy]; intro z; exact n (z ▸ hx)⟩
  exact this l [] List.nodup_nil
theorem nodup_len : ∀ {l U : List Int}, l.Nodup → (∀ k ∈ l, k ∈ U) → l.length ≤ U.length
  | [], _, _, _ => Nat.zero_le _
  | x :: l, U, nd, h => by
    have q := List.nodup_cons.mp nd
    have hx : x ∈ U := h x List.mem_cons_self
    have ih := nodup_len (U := U.erase x) q.2 fun k hk => by
      have hk' := h k (List.mem_cons_of_mem _ hk)
      exact (List.mem_erase_of_ne (fun z => q.1 (by subst z; exact hk))).mpr hk'
    have := List.length_erase_of_mem hx
    have := List.length_pos_of_mem hx
    simp only [List.length_cons]
    omega
theorem cr_setI (hc : X.calm = true) : CallR X (.type "set") (rSetI X.K X.w) := by
  intro pins s σ H xs us Q I r h
  obtain ⟨l, ns, rfl, hl, hk, q⟩ := h
  rw [Vals.ref1 r]
  obtain ⟨its, rv, pl, hz⟩ := I.list hl
  have hn : H s.heap.objs.size = none := I.hok.fresh (Nat.le_refl _)
  have hlen : its.toArray.size = ns.length := by rw [List.size_toArray, ← rv.length, List.length_map]
  refine call_set_ints (P := X.prog) (w := X.w) (ns := ns) (I.ok.hd hc) pl.isList (by simpa using rv.ints) (by rw [hlen]; unfold scanBound; omega) fun h' tk R k => ?_
  rw [hlen, PySem.W.oss_met] at R
  refine ⟨.ref s.heap.objs.size, upd H s.heap.objs.size (SetO X.w s.heap.objs.size (inS (PySem.W.ossOf ns)) (PySem.W.ossOf ns).length), I.laid (t' := tk) k (Nat.le_refl _) (setO_new R), rfl, q _ _ _ hn (fun k => ?_) (fun U hU => ?_) (PySem.W.oss_len ns)⟩
  · unfold inS
    rw [List.any_eq_true]
    constructor
    · rintro ⟨x, hx, e⟩
      rw [← beq_iff_eq.mp e]
      exact PySem.W.oss_has.mp hx
    · intro hk; exact ⟨k, PySem.W.oss_has.mpr hk, beq_self_eq_true k⟩
  · exact nodup_len (ossOf_nodup ns) fun k hk => hU k (PySem.W.oss_has.mp hk)
end
end Zh

/-! Zh2: more rules of the hand layer's kind: tuples known whole, dict(..) of them, len(set(..)) of keys. -/
namespace Zh
open PySem PySem.Spec PyProof.Rows L2

/-- a tuple known whole -/
def Whole (K : PySem.W.Frag) (H : Hp) (a : Addr) (xs : List V) : Prop :=
  (∃ o : Obj, o.dict = none ∧ H a = some (.frz o (.tup xs))) ∨
    ∃ (o : Obj) (its : Array Value) (n : Nat), o.dict = none ∧ K.lookup a = some o ∧ o.cls = .type "tuple" ∧ o.data = .seq its n ∧ its.size ≤ sizeLine ∧ Vals xs its.toList
theorem Whole.sq {K : PySem.W.Frag} {H : Hp} {a : Addr} {xs : List V} (w : Whole K H a xs) : SqT K H a xs := by
  rcases w with ⟨o, _, e⟩ | ⟨o, its, n, _, r⟩
  · exact .inl (.inr ⟨o, e⟩)
  · exact .inr ⟨o, its, n, r⟩
section
variable {X : Cx} {pins : List (Addr × Obj)} {σ : L2.St} {H : Hp} {s : Shared}
theorem whole_obj (I : Inv X pins σ H s) {a : Addr} {xs : List V} (w : Whole X.K H a xs) : ∃ (o : Obj) (its : List Value) (n : Nat), Vals xs its ∧ xs.length ≤ sizeLine ∧ s.heap.get? a = some o ∧ o.cls = .type "tuple" ∧ o.dict = none ∧ o.data = .seq its.toArray n := by
  rcases w with ⟨o, d, e⟩ | ⟨o, its, n, d, k, c, q, z, v⟩
  · obtain ⟨g, z, its, v, o', g', c, n, q⟩ := I.hok a _ e
    have eo : o = o' := by rw [g] at g'; exact Option.some.inj g'
    subst eo
    exact ⟨o, its, n, v, z, g, c, d, q⟩
  · have l : xs.length = its.toList.length := v.length
    have l2 : its.toList.length = its.size := by simp
    exact ⟨o, its.toList, n, v, by omega, I.kIn _ _ k, c, d, by simpa using q⟩
theorem pe_tupW {x1 : Nat} {es : List Expr} {t : TA} {pos : Pos} (h : PA X es t) : PE X (.Tuple es x1 pos) (fun σ H Q => t σ H fun xs H' => xs.length ≤ sizeLine ∧ ∀ p o, o.dict = none → H' p = none → Q (.ref p) (upd H' p (.frz o (.tup xs)))) := by
  refine ⟨fun pins s σ H Q I hq => wpAny_Tuple_spliced (thn (h.run pos pins s σ H _ I hq) fun us s1 ⟨xs, H1, I1, r, z, q⟩ => ?_)⟩
  refine ⟨by rw [← r.length]; exact z, .ref s1.heap.objs.size, _, I1.laid (o := .frz { cls := .type "tuple", data := .seq us.toArray } (.tup xs)) (t' := s1.toks) (fun b u e => Heap.get?_push_of_some _ e) (Nat.le_refl _) ?_, rfl, q _ _ rfl (I1.hok.fresh (Nat.le_refl _))⟩
  exact ⟨Heap.get?_push_size _ rfl, z, us, r, _, Heap.get?_push_size _ rfl, rfl, _, rfl⟩
theorem pe_tupleW {a : Expr} {ta : TE} {p pos : Pos} (hg : Gl X "tuple") (hm : X.mg "tuple" = none) (ha : PE X a ta) (na : starEach [a] X.env = (false, eval a X.env) :: starEach [] X.env) :
    PE X (.Call (.Name "tuple" p) [a] [] pos) (fun σ H Q => ta σ H fun x H1 => ∃ b xs, x = .ref b ∧ SqL X.K H1 b xs ∧ ∀ q o, o.dict = none → H1 q = none → Q (.ref q) (upd H1 q (.frz o (.tup xs)))) := by
  refine ⟨fun pins s σ H Q I h => Call_ (ld_blt I hg hm boot_tuple (PyProof.Rows.callWith_type1 (one_arg ha I h (fun v s2 x H2 I2 r q => ?_) na) na))⟩
  obtain ⟨b, xs, rfl, hs, q⟩ := q
  obtain rfl : v = .ref b := r
  obtain ⟨its, rv, pl, hz⟩ := I2.list hs
  refine call_tuple_list pl.isList (fun h' hk => ?_) (by have := rv.length; rw [List.size_toArray]; omega)
  have J : Inv X pins σ H2 { s2 with heap := h' } := I2.kept (t' := s2.toks) hk
  refine ⟨.ref h'.objs.size, _, J.laid (h' := h'.push { cls := .type "tuple", data := .seq its.toArray }) (o := .frz { cls := .type "tuple", data := .seq its.toArray } (.tup xs)) (t' := s2.toks) (fun c o e => Heap.get?_push_of_some _ e) (Nat.le_refl _) ?_, rfl, q _ _ rfl (J.hok.fresh (Nat.le_refl _))⟩
  exact ⟨Heap.get?_push_size _ rfl, hz, its, rv, IsTup.new _ _⟩

/-! ### dict(..) of a list of pairs, of a tuple of pairs that is known whole -/
def rDictP (K : PySem.W.Frag) : List V → Hp → VK → Prop := fun xs H Q => ∃ (a : Addr) (ps : List Addr) (kvs : List (Key × V)), xs = [.ref a] ∧ (SqL K H a (ps.map V.ref) ∨ Whole K H a (ps.map V.ref)) ∧ Paired (fun p kv => SqT K H p [kV kv.1, kv.2]) ps kvs ∧
  ∀ p, H p = none → Q (.ref p) (upd H p (.dK (mergeK [] kvs)))
theorem cr_dictP (hc : X.calm = true) : CallR X (.type "dict") (rDictP X.K) := by
  intro pins s σ H xs us Q I r ⟨a, ps, kvs, ex, hq, hp, q⟩
  rcases hq with hq | hq
  · exact call_dictP hc pins s σ H xs us Q I r ⟨a, ps, kvs, ex, hq, hp, q⟩
  subst ex
  obtain ⟨u, rfl, rx⟩ := vals1 r
  obtain rfl : u = .ref a := rx
  obtain ⟨o, its, n, rv, hz, ho, c, d, hd⟩ := whole_obj I hq
  obtain rfl := refs_at rv
  rw [List.length_map] at hz
  obtain ⟨prs, rel, hl, hpr⟩ := pairs_of I hp
  -- the pairs as they stand
  have hex : ∃ vs : List (Value × Value), vs.length = prs.length ∧ ∀ (j : Nat) (k v : Value), vs[j]? = some (k, v) → ∃ q b, prs[j]? = some q ∧ q.2 = v ∧ ps[j]? = some b ∧ IsTup s.heap b #[k, v] ∧ keyIs q.1 k = true := by
    refine ⟨(List.range prs.length).map fun j => match prs[j]? with
      | some q => (Classical.epsilon fun u => ∃ b, ps[j]? = some b ∧ IsTup s.heap b #[u, q.2] ∧ keyIs q.1 u = true, q.2)
      | none => (.none, .none), by simp, fun j k v e => ?_⟩
    obtain ⟨hj, e'⟩ := List.getElem?_eq_some_iff.mp e
    rw [List.length_map, List.length_range] at hj
    have g : prs[j]? = some prs[j] := List.getElem?_eq_getElem hj
    rw [List.getElem_map, List.getElem_range, g] at e'
    have e1 := congrArg Prod.fst e'
    have e2 := congrArg Prod.snd e'
    obtain ⟨b, u, h1, h2, h3⟩ := hpr j _ g
    have ep := Classical.epsilon_spec (p := fun u => ∃ b, ps[j]? = some b ∧ IsTup s.heap b #[u, prs[j].2] ∧ keyIs prs[j].1 u = true) ⟨u, b, h1, h2, h3⟩
    dsimp only at e1 e2
    rw [e1] at ep
    subst e2
    obtain ⟨b', k1, k2, k3⟩ := ep
    exact ⟨prs[j], b', g, rfl, k1, k2, k3⟩
  obtain ⟨vs, lv, hv⟩ := hex
  have pI : PairItems s.heap (ps.map Value.ref).toArray (fun j => ps.getD j 0) vs := by
    refine ⟨by rw [List.size_toArray, List.length_map]; omega, fun j k v e => ?_⟩
    obtain ⟨q', b, g1, g2, g3, g4, g5⟩ := hv j k v e
    have gd : ps.getD j 0 = b := by rw [List.getD_eq_getElem?_getD, g3]; rfl
    dsimp only
    refine ⟨?_, ?_⟩
    · rw [List.getElem?_toArray, List.getElem?_map, g3, gd]; rfl
    · rw [gd]; exact .inl g4
  refine PySem.call_dict_pairs (knd := mixKind X.prog X.w) (kvs := prs) (PairArg.tuple a _ (fun j => ps.getD j 0) vs) (I.ok.hd hc) ⟨⟨o, n, ho, c, d, hd⟩, pI⟩ ⟨lv.symm, fun j k v e => ?_⟩ (by omega) fun h' tk hd' k => ?_
  · obtain ⟨q', b, g1, g2, g3, g4, g5⟩ := hv j k v e
    exact ⟨q'.1, by rw [g1, ← g2], g5⟩
  · have k' : ∀ b o, s.heap.get? b = some o → h'.get? b = some o := fun b o e => k b o (fun z => nomatch z) e
    have ml := length_mergeK kvs []
    have rl := rel.length
    rw [List.length_nil] at ml
    refine ⟨.ref s.heap.objs.size, _, I.laid (o := .dK (mergeK [] kvs)) (t' := tk) k' (Nat.le_refl _) ⟨by omega, beq_eq_false_iff_ne.mpr (Nat.ne_of_gt I.big), merged [] prs, KV.merge rel .nil, hd'⟩, rfl, q _ (I.hok.fresh (Nat.le_refl _))⟩
end
/-! ### set(..) of a list of keys, whichever come twice -/
section
variable {κ : Type} [DecidableEq κ]
/-- each once, where it comes first -/
def firsts (xs : List κ) : List κ := xs.foldl (fun acc k => if k ∈ acc then acc else acc ++ [k]) []
theorem firsts_snoc (xs : List κ) (k : κ) : firsts (xs ++ [k]) = if k ∈ firsts xs then firsts xs else firsts xs ++ [k] := by
  unfold firsts; rw [List.foldl_append]; rfl
theorem firsts_le (xs : List κ) : (firsts xs).length ≤ xs.length := by
  have gen : ∀ (xs acc : List κ), (xs.foldl (fun acc k => if k ∈ acc then acc else acc ++ [k]) acc).length ≤ acc.length + xs.length := by
    intro xs
    induction xs with
    | nil => intro acc; exact Nat.le_refl _
    | cons x xs ih =>
      intro acc
      rw [List.foldl_cons]
      have h := ih (if x ∈ acc then acc else acc ++ [x])
      rw [List.length_cons]
      split at h
      · rename_i hx; rw [if_pos hx]; omega
      · rename_i hx
        rw [List.length_append, List.length_singleton] at h
        rw [if_neg hx]; omega
  have h := gen xs []
  rw [List.length_nil, Nat.zero_add] at h
  exact h
def inFirst (ks : List κ) (k : κ) : Bool := decide (k ∈ firsts ks)
theorem inFirst_snoc (ks : List κ) (k j : κ) : inFirst (ks ++ [k]) j = (inFirst ks j || decide (j = k)) := by
  unfold inFirst
  rw [firsts_snoc]
  by_cases h : k ∈ firsts ks
  · rw [if_pos h]
    by_cases e : j = k
    · subst e; simp [h]
    · simp [e]
  · rw [if_neg h]
    by_cases e : j = k <;> simp [e]
theorem firsts_snoc_len (ks : List κ) (k : κ) : (firsts (ks ++ [k])).length = if inFirst ks k = true then (firsts ks).length else (firsts ks).length + 1 := by
  rw [firsts_snoc]
  unfold inFirst
  by_cases h : k ∈ firsts ks <;> simp [h]
end
section
variable {P : Program} {w : World} {A : Around} {R : Result → Shared → Prop} {I : Addr} {fp wr : List Addr} {G : Array GenState → Array GenState → Prop} {n : Nat} {Pv : Nat → Value → Prop} {St : Nat → Shared → Prop}
theorem keys_loop (Wk : WalksS P w A.in1 I fp wr G n Pv St) (S : Addr) (off : S ∉ fp) (ks : List Key) (hl : ks.length = n) (hv : ∀ i v, Pv i v → ∃ k, ks[i]? = some k ∧ RelV (kV k) v) (room : n + 1 < scanBound) :
    ∀ (m i : Nat) (s : Shared), n - i = m → i ≤ n → St i s → s.heap.SetOf (mixKind P w) S (inFirst (ks.take i)) (firsts (ks.take i)).length →
      (∀ t, Moved (S :: wr) G s t → t.heap.SetOf (mixKind P w) S (inFirst ks) (firsts ks).length → R (.ok (.ret .none)) t) → codeAny (model P w) A (.builtin "set.update.loop" ⟨[.ref S, .ref I], []⟩) R s := by
  have offw : S ∉ wr := fun z => off (Wk.sub S z)
  have more : ∀ b, b ∈ wr → b ∈ S :: wr := fun b z => List.mem_cons_of_mem S z
  intro m
  induction m with
  | zero =>
    intro i s hm hi st hS out
    obtain rfl : i = n := by omega
    refine codeAny_builtin PyProof.Rows.F.entry_set_update_loop ?_
    rw [Around.under_plainId PyProof.Rows.F.plain_set_update_loop _]
    refine wpAny_bind (m := pyNext (.ref I)) (Wk.done s _ _ st fun t mv => wpAny_pure (out t (mv.mono more) ?_))
    obtain ⟨o, es, ep, tb, ho, r⟩ := hS
    rw [List.take_of_length_le (by omega)] at r
    exact ⟨o, es, ep, tb, mv.heap S o offw ho, r⟩
  | succ m ih =>
    intro i s hm hi st hS out
    have lt : i < n := by omega
    refine codeAny_builtin PyProof.Rows.F.entry_set_update_loop ?_
    rw [Around.under_plainId PyProof.Rows.F.plain_set_update_loop _]
    refine wpAny_bind (m := pyNext (.ref I)) (Wk.item i s _ _ lt st fun v t hP st' mv => ?_)
    obtain ⟨k, gk, rk⟩ := hv i v hP
    have hS1 : t.heap.SetOf (mixKind P w) S (inFirst (ks.take i)) (firsts (ks.take i)).length := by
      obtain ⟨o, es, ep, tb, ho, r⟩ := hS
      exact ⟨o, es, ep, tb, mv.heap S o offw ho, r⟩
    have tk : ks.take (i + 1) = ks.take i ++ [k] := by rw [List.take_add_one, gk]; rfl
    have rm : (firsts (ks.take i)).length + 1 < scanBound := by
      have h := firsts_le (ks.take i)
      rw [List.length_take] at h
      omega
    refine wpAny_bind (m := holding [v] (setAdd S v)) (wpAny_holding ?_)
    unfold setAdd
    refine wpAny_holding (wpAny_bind ((mixKind P w).pyHash (k := k) (kV_is rk) ?_))
    refine wpAny_setAddHashed_of (knd := mixKind P w) (s := { t with toks := t.toks + 1 }) (kV_is rk) (key_scan rk) hS1 rm fun h' sb hS2 => ?_
    have hS3 : h'.SetOf (mixKind P w) S (inFirst (ks.take (i + 1))) (firsts (ks.take (i + 1))).length := by
      rw [tk, firsts_snoc_len]
      have e : inFirst (ks.take i ++ [k]) = fun j => inFirst (ks.take i) j || decide (j = k) := funext (inFirst_snoc _ k)
      rw [e]
      exact hS2
    refine wpAny_pure ⟨plainId_quiet PyProof.Rows.F.plain_set_update_loop _, ih (i + 1) _ (by omega) lt (Wk.frame _ t _ _ st' (Nat.le_succ _) fun b hb o e => ?_) hS3 fun u mu hS4 => out u (Moved.trans Wk.gtrans ((mv.mono more).then_heap (Nat.le_succ _) fun b o hb e => ?_) mu) hS4⟩
    · have nb : b ≠ S := fun z => off (z ▸ hb)
      rw [sb.2 b nb]; exact e
    · have nb : b ≠ S := fun z => hb (z ▸ List.mem_cons_self)
      rw [sb.2 b nb]; exact e
end
section
variable {P : Program} {w : World} {A : Around} {E : Value → Shared → Prop} {s : Shared}
theorem keys_init {S l : Addr} {led : Bool} {items : Array Value} {ks : List Key} {Q : Shared → Prop} (hh : A.handled = none) (hset : s.heap.get? S = some { cls := .type "set", dict := none, data := .set #[] 0 (.fresh 0 0 led) }) (hne : l ≠ S) (hl : s.heap.IsList l items) (hz : ks.length = items.size) (hv : ∀ (i : Nat) v, items[i]? = some v → ∃ k, ks[i]? = some k ∧ RelV (kV k) v) (room : ks.length + 1 < scanBound)
    (out : ∀ h' tk, h'.SetOf (mixKind P w) S (inFirst ks) (firsts ks).length → (∀ b o, b ≠ S → s.heap.get? b = some o → h'.get? b = some o) → Q { s with heap := h', toks := tk }) :
    codeAny (model P w) A (.call (.builtin "set.__init__") ⟨[.ref S, .ref l], []⟩) (wants (fun r t => r = .none ∧ Q t) E) s := by
  refine codeAny_call_builtin PySem.F.called_set.init.plain PySem.F.entry_set_init (check_set_init_1 ⟨_, hset, rfl⟩ ?_)
  obtain ⟨o, ho, hc, k, hd⟩ := hl
  have e1 := PySem.F.sub_list_set
  have e2 := PySem.F.sub_list_frozenset
  have e3 : (Value.type "list" == Value.type "dict") = false := by decide
  have hlt : s.TypeIs (.ref l) "list" := ⟨o, ho, hc⟩
  have hil : s.heap.IsList l items := ⟨o, ho, hc, k, hd⟩
  obtain ⟨c, dc, dt, sl⟩ := o
  simp only at hc hd
  subst hc hd
  obtain ⟨hp, g, dr, tk0, os⟩ := s
  unfold Builtin.«set.__init__» noKeywords Builtin.Frozenset.updateFrom
  generalize hPI : pyIter = PI
  wp_walk
  subst hPI
  refine wpAny_pyIter_list hil ?_
  refine wpAny_bind (wpAny_runValue ?_)
  have hll : l < hp.objs.size := Heap.lt_size ho
  have h3 : A.in1.in1.handled = none := by simp [hh]
  have nI : l ≠ hp.objs.size := Nat.ne_of_lt hll
  have nS : S ≠ hp.objs.size := Nat.ne_of_lt (Heap.lt_size hset)
  refine keys_loop ((Walks.list h3 hp.objs.size l nI items).toS) S (by simp only [List.mem_cons, List.mem_singleton, List.not_mem_nil, or_false, not_or]; exact ⟨nS, fun z => hne z.symm⟩) ks hz (fun i v h => hv i v h) (by omega) (items.size - 0) 0 _ (by omega) (Nat.zero_le _) ?_ ?_ fun t mv hS' => ?_
  · exact ⟨⟨_, Heap.get?_push_size _ rfl, rfl, rfl⟩, hil.push _⟩
  · rw [show inFirst (ks.take 0) = fun _ => false from funext fun j => by rw [List.take_zero]; rfl, show (firsts (ks.take 0)).length = 0 from by rw [List.take_zero]; rfl]
    exact ⟨_, #[], 0, _, Heap.get?_push_of_some _ hset, ⟨rfl, rfl, rfl⟩, rfl, fun e he => by simp at he, fun k => by simp, by decide, by rfl, rfl⟩
  · obtain ⟨h', g', d', tk', os'⟩ := t
    obtain rfl : g' = g := mv.gens
    obtain rfl : d' = dr := mv.drawn
    obtain rfl : os' = os := mv.os
    refine wpAny_pure (wpAny_pure ⟨rfl, out h' tk' hS' fun b o nb e => mv.heap b o ?_ (Heap.get?_push_of_some _ e)⟩)
    simp only [List.mem_cons, List.mem_singleton, List.not_mem_nil, or_false, not_or]
    exact ⟨nb, Nat.ne_of_lt (Heap.lt_size e)⟩
theorem call_keys {l : Addr} {items : Array Value} {ks : List Key} {Q : Value → Shared → Prop} (hh : A.handled = none) (hl : s.heap.IsList l items) (hz : ks.length = items.size) (hv : ∀ (i : Nat) v, items[i]? = some v → ∃ k, ks[i]? = some k ∧ RelV (kV k) v) (room : ks.length + 1 < scanBound)
    (out : ∀ h' tk, h'.SetOf (mixKind P w) s.heap.objs.size (inFirst ks) (firsts ks).length → (∀ b o, s.heap.get? b = some o → h'.get? b = some o) → Q (.ref s.heap.objs.size) { s with heap := h', toks := tk }) :
    wpAny (model P w) A (call (.type "set") [.ref l]) Q E s := by
  obtain ⟨c, tl, k0⟩ := PySem.F.called_set.mro
  have k1 := PySem.F.called_set.made
  have k2 := PySem.F.called_set.sub
  refine wpAny_call (codeAny_of_tree ?_)
  show wpAny (model P w) _ (callAny (.type "set") _) _ _ _
  refine wpAny_pure ⟨Code.quiet_builtin _ (by decide +kernel), codeAny_builtin PySem.F.entry_type_call ?_⟩
  rw [Around.under_plain (weight_type_call_type "set" [.ref l] []) rfl]
  have k3 := PySem.F.called_set.notType
  have k4 := PySem.F.called_set.canCreate
  have k5 := PySem.F.typeCall_set_1 (.ref l)
  repeat (any_goals (first | assumption | wp_step))
  refine codeAny_mono (code_set_new_1 (.ref l) (E := E) (Q₁ := fun v t => ∃ led : Bool, v = .ref s.heap.objs.size ∧ t = { s with heap := s.heap.push { cls := .type "set", dict := none, data := .set #[] 0 (.fresh 0 0 led) } }) fun led => ⟨led, rfl, rfl⟩) fun r t hr => ?_
  match r, hr with
  | .error e, hr => exact hr
  | .ok (.ret v), ⟨led, hv1, hv2⟩ =>
    subst hv1 hv2
    have hset : (s.heap.push { cls := .type "set", dict := none, data := .set #[] 0 (.fresh 0 0 led) }).get? s.heap.objs.size = some { cls := .type "set", dict := none, data := .set #[] 0 (.fresh 0 0 led) } := Heap.get?_push_size _ rfl
    have hT : Shared.TypeIs { s with heap := s.heap.push { cls := .type "set", dict := none, data := .set #[] 0 (.fresh 0 0 led) } } (.ref s.heap.objs.size) "set" := ⟨_, hset, rfl⟩
    have k6 := PySem.F.called_set.init.lookup
    have k7 := PySem.F.called_set.init.bind (.ref s.heap.objs.size)
    repeat (any_goals (first | assumption | wp_step))
    have ll : l < s.heap.objs.size := let ⟨o, ho, _⟩ := hl; Heap.lt_size ho
    refine codeAny_mono (keys_init (E := E) (Q := fun t => Q (.ref s.heap.objs.size) t) (by simp [hh]) hset (Nat.ne_of_lt ll) (hl.push _) hz hv room fun h' tk hS k => out h' tk hS fun b o e => k b o (Nat.ne_of_lt (Heap.lt_size e)) (Heap.get?_push_of_some _ e)) fun r t hr => ?_
    match r, hr with
    | .error e, hr => exact hr
    | .ok (.ret v), ⟨e, q⟩ =>
      subst e
      repeat (any_goals (first | assumption | wp_step))
end
section
variable {X : Cx}
def rSetKeys (P : Program) (w : World) (K : PySem.W.Frag) : List V → Hp → VK → Prop := fun vs H Q => ∃ (a : Addr) (ks : List Key), vs = [V.ref a] ∧ SqL K H a (ks.map kV) ∧ ks.length + 1 < scanBound ∧ ∀ p, H p = none → Q (.ref p) (upd H p (SetK P w p (inFirst ks) (firsts ks).length))
theorem cr_setKeys (hc : X.calm = true) : CallR X (.type "set") (rSetKeys X.prog X.w X.K) := by
  intro pins s σ H vs us Q I r ⟨a, ks, ev, hs, room, q⟩
  subst ev
  obtain ⟨its, rv, pl, hz⟩ := I.list hs
  rw [Vals.ref1 r]
  have ln : (ks.map kV).length = its.length := rv.length
  rw [List.length_map] at ln
  refine call_keys (ks := ks) (I.ok.hd hc) pl.isList (by simpa using ln) (fun i v e => ?_) room fun h' tk hS k => ?_
  · rw [List.getElem?_toArray] at e
    obtain ⟨hi, _⟩ := List.getElem?_eq_some_iff.mp e
    have hi' : i < ks.length := by omega
    obtain ⟨u, hu, ru⟩ := rv.get (i := i) (x := kV ks[i]) (by simp [hi'])
    rw [e] at hu
    cases hu
    exact ⟨ks[i], List.getElem?_eq_getElem hi', ru⟩
  · exact ⟨.ref s.heap.objs.size, _, I.laid (t' := tk) k (Nat.le_refl _) (setK_new hS), rfl, q _ (I.hok.fresh (Nat.le_refl _))⟩
/-- len(..) of a set of keys -/
def rLenSetK (P : Program) (w : World) : List V → Hp → VK → Prop := fun vs H Q => ∃ (a : Addr) (S : Key → Bool) (n : Nat), vs = [V.ref a] ∧ H a = some (SetK P w a S n) ∧ n < 2 ^ 62 ∧ Q (.int n) H
theorem cr_lenSetK : CallR X (.builtin "len") (rLenSetK X.prog X.w) := by
  intro pins s σ H vs us Q I r ⟨a, S, n, ev, hs, hn, q⟩
  subst ev
  rw [Vals.ref1 r]
  obtain ⟨o, es, ep, t, ho, hex, hd, _, _, _, hf, en⟩ := setK_get I hs
  exact call_len_set ho hex hd hf (by rw [en]; omega) ⟨.int n, H, I.tok _, ⟨_, by rw [en]⟩, q⟩
end
/-! ### a text some times -/
theorem rep_app {α : Type} (xs : Array α) : ∀ (n : Nat) (acc : Array α), (List.replicate n xs).foldl (· ++ ·) acc = acc ++ (List.replicate n xs.toList).flatten.toArray
  | 0, acc => by simp
  | n + 1, acc => by
    rw [List.replicate_succ, List.foldl_cons, rep_app xs n, List.replicate_succ, List.flatten_cons]
    apply Array.ext'
    simp
theorem op_rep_str {X : Cx} : OpR X (binaryOp .Mult) (fun x y H Q => ∃ (s : Str) (k : Int), x = .str s ∧ y = .int k ∧ 0 ≤ k ∧ k ≤ 1000000 ∧ s.length * k.toNat ≤ 1000000 ∧ Q (.str ⟨(List.replicate k.toNat s.cps.toList).flatten.toArray⟩) H) := by
  intro pins s σ H x y v u Q I rx ry ⟨z, k, ex, ey, k0, k1, hl, q⟩
  subst ex ey
  obtain ⟨t, rfl⟩ := rx
  obtain ⟨t', rfl⟩ := ry
  have dr : (decide (k < -(2 ^ 63 : Int)) || decide (k ≥ 2 ^ 63)) = false := by
    rw [decide_eq_false (by omega), decide_eq_false (by omega)]; rfl
  have sz : z.length * k.toNat ≤ 1000000 := hl
  refine P.mul_str dr (fun h1 _ h2 => ?_) (fun _ _ => ?_) ?_
  · have h3 : (z.length : Int) ≤ (2 ^ 63 - 1) / k := by
      rw [Int.le_ediv_iff_mul_le (by omega)]
      have e : (z.length : Int) * k = ((z.length * k.toNat : Nat) : Int) := by rw [Int.natCast_mul, Int.toNat_of_nonneg k0]
      rw [e]
      omega
    omega
  · unfold Builtin.Str.tooLong
    rw [decide_eq_false]
    rw [sizeLine_eq]
    omega
  · have whole : ∀ w : Str, w = ⟨(List.replicate k.toNat z.cps.toList).flatten.toArray⟩ → ∀ (w' : Tok) s', L2.Inv X pins σ H s' → EP X pins σ Q (.str w w') s' := fun w e w' s' I' => ⟨.str _, H, I', ⟨w', by rw [e]⟩, q⟩
    split
    · rename_i c
      have e0 : k.toNat = 0 := by omega
      exact ⟨by decide, whole _ (by rw [e0]; rfl) _ _ (I.tok _)⟩
    · rename_i c
      split
      · rename_i c2
        refine whole _ ?_ _ _ I
        rw [Bool.or_eq_true] at c2
        rcases c2 with c2 | c2
        · have e1 : k.toNat = 1 := by have := eq_of_beq c2; omega
          rw [e1]
          obtain ⟨cp⟩ := z
          simp
        · have e0 : z.cps.toList = [] := by
            have h := eq_of_beq c2
            have h' : z.cps.size = 0 := h
            exact Array.toList_eq_nil_iff.mpr (Array.eq_empty_of_size_eq_zero h')
          obtain ⟨cp⟩ := z
          have e0' : cp.toList = [] := e0
          have : cp = #[] := Array.toList_eq_nil_iff.mp e0'
          subst this
          simp
      · refine ⟨?_, whole _ ?_ _ _ (I.tok _)⟩
        · show (((List.replicate k.toNat z.cps).foldl (· ++ ·) #[]).size ≤ _)
          rw [rep_app]
          simp [List.length_flatten, sizeLine_eq]
          rw [Nat.mul_comm]
          have : z.cps.size * k.toNat ≤ 1000000 := sz
          omega
        · rw [rep_app]
          apply congrArg
          simp
end Zh

/-! Zh3: enumerate and zip over lists and tuples, whichever. -/
namespace Zh
open PySem PySem.Spec PyProof.Rows L2

/-- a list (false), a tuple (true) -/
def SqB (t : Bool) (K : PySem.W.Frag) (H : Hp) (a : Addr) (xs : List V) : Prop := match t with
  | false => SqL K H a xs
  | true => SqT K H a xs
def atB (t : Bool) (h : Heap) (a : Addr) (its : Array Value) : Prop := match t with
  | false => h.IsList a its
  | true => h.IsTuple a its
def itB (t : Bool) (h : Heap) (i a : Addr) (k : Nat) : Prop := match t with
  | false => h.IsListIter i a k
  | true => h.IsTupleIter i a k
def itO (t : Bool) (a : Addr) : Obj := match t with
  | false => { cls := .type "list_iterator", data := .fields #[.ref a, .int 0 0] }
  | true => { cls := .type "tuple_iterator", data := .fields #[.ref a, .int 0 0] }
section
variable {X : Cx} {pins : List (Addr × Obj)} {σ : L2.St} {H : Hp} {s : Shared} {a : Addr} {xs : List V} {t : Bool}
theorem sqB_at (I : Inv X pins σ H s) (q : SqB t X.K H a xs) : ∃ its : List Value, Vals xs its ∧ atB t s.heap a its.toArray ∧ a < s.heap.objs.size := by
  cases t with
  | false =>
    obtain ⟨its, r, p, _⟩ := I.list q
    exact ⟨its, r, p.isList, p.lt⟩
  | true =>
    obtain ⟨its, r, p, _⟩ := I.tuple q
    exact ⟨its, r, p, p.lt⟩
theorem sqB_inj (I : Inv X pins σ H s) {ys : List V} (q : SqB t X.K H a xs) (q2 : SqB t X.K H a ys) : xs = ys := by
  cases t with
  | false => exact I.list_inj q q2
  | true => exact I.tuple_inj q q2
end
theorem draws_B {P : Program} {w : World} {A : Around} (hh : A.handled = none) (t : Bool) (i a : Addr) (ne : a ≠ i) (its : Array Value) : Draws P w A i [i, a] its.size (fun j v => its[j]? = some v) (fun j h => itB t h i a j ∧ atB t h a its) := by
  cases t with
  | false => exact Draws.list hh i a ne its
  | true => exact Draws.tuple hh i a ne its
theorem begins_B (t : Bool) (a : Addr) (its : Array Value) : Begins (.ref a) (itO t a) fun h => atB t h a its := by
  cases t with
  | false => exact begins_list a its
  | true => exact begins_tuple a its
theorem itB_at {t : Bool} {h h' : Heap} {i a : Addr} {k : Nat} (x : itB t h i a k) (e : ∀ o, h.get? i = some o → h'.get? i = some o) : itB t h' i a k := by
  cases t with
  | false => exact x.at e
  | true => exact x.at e
theorem atB_at {t : Bool} {h h' : Heap} {a : Addr} {its : Array Value} (x : atB t h a its) (e : ∀ o, h.get? a = some o → h'.get? a = some o) : atB t h' a its := by
  cases t with
  | false => exact x.at e
  | true => exact x.at e
theorem itB_obj {t : Bool} {h : Heap} {i a : Addr} {k : Nat} (x : itB t h i a k) : ∃ o, h.get? i = some o ∧ ∀ v, o.data ≠ .cell v := by
  cases t with
  | false =>
    obtain ⟨o, e, _, d⟩ := x
    exact ⟨o, e, fun v q => by rw [d] at q; cases q⟩
  | true =>
    obtain ⟨o, e, _, d⟩ := x
    exact ⟨o, e, fun v q => by rw [d] at q; cases q⟩
theorem itB_new {t : Bool} {h : Heap} {i a : Addr} (e : h.get? i = some (itO t a)) : itB t h i a 0 := by
  cases t with
  | false => exact ⟨_, e, rfl, rfl⟩
  | true => exact ⟨_, e, rfl, rfl⟩

/-! ### enumerate(x) -/
set_option maxHeartbeats 1000000 in
theorem meets_enum1 {v : Value} {o : Obj} {G : Heap → Prop} (B : Begins v o G) :
    Meets (Builtin.«enumerate.__new__» ⟨[.type "enumerate", v], []⟩) (fun _ R s => G s.heap ∧
      R (.ok (.ret (.ref (s.heap.push o).objs.size))) { s with heap := (s.heap.push o).push { cls := .type "enumerate", data := .fields #[.none, .bool false, .ref s.heap.objs.size, rawInt 0, .none, .none] } }) :=
  .of_wp fun P w A R s h => by
    obtain ⟨hp, g, d, tk, os⟩ := s
    obtain ⟨h1, h⟩ := h
    have hsub := sub_enumerate
    have q1 : ∀ {A' : Around} {E : Value → Shared → Prop} {Q : Value → Shared → Prop}, Q (.ref hp.objs.size) ⟨hp.push o, g, d, tk, os⟩ → wpAny (model P w) A' (pyIter v) Q E ⟨hp, g, d, tk, os⟩ :=
      fun q => B.iter P w _ _ ⟨hp, g, d, tk, os⟩ _ h1 q
    wp_walk using q1
    refine wpAny_stack_any fun st => wpAny_pure ?_
    split
    · rename_i c _ _ _ _ _
      cases (c == Value.type "enumerate") <;> (wp_walk using q1; exact ⟨_, rfl, h⟩)
    · wp_walk using q1
      exact ⟨_, rfl, h⟩
theorem enum1_begins {P : Program} {w : World} {A : Around} {E : Value → Shared → Prop} {s : Shared} {v : Value} {o : Obj} {G : Heap → Prop} {Q : Value → Shared → Prop} (B : Begins v o G) (h1 : G s.heap)
    (h : ∀ h', IsEnum h' (s.heap.objs.size + 1) s.heap.objs.size 0 .none → h'.get? s.heap.objs.size = some o → (∀ b u, s.heap.get? b = some u → h'.get? b = some u) → Q (.ref (s.heap.objs.size + 1)) { s with heap := h' }) :
    wpAny (model P w) A (call (.type "enumerate") [v]) Q E s := by
  refine callType_new F.called_enumerate (by decide) (F.typeCall_enumerate_1 _) (F.newCall_enumerate_1 _) (fun u => F.args_object_init_2 u _) F.entry_enumerate_new (meets_enum1 B) ⟨h1, ?_⟩
  have hz : (s.heap.push o).objs.size = s.heap.objs.size + 1 := Heap.size_push ..
  show _ ∧ _
  rw [hz]
  have he : IsEnum ((s.heap.push o).push { cls := .type "enumerate", data := .fields #[.none, .bool false, .ref s.heap.objs.size, rawInt 0, .none, .none] }) (s.heap.objs.size + 1) s.heap.objs.size 0 .none := by
    have q := Heap.get?_push_size (s.heap.push o) (o := { cls := .type "enumerate", data := .fields #[.none, .bool false, .ref s.heap.objs.size, rawInt 0, .none, .none] }) rfl
    rw [hz] at q
    exact q
  exact ⟨⟨_, he, rfl⟩, h _ he (Heap.get?_push_of_some _ (Heap.get?_push_size _ B.free)) fun b u e => Heap.get?_push_of_some _ (Heap.get?_push_of_some _ e)⟩
def IteB (t : Bool) (K : PySem.W.Frag) (a : Addr) : It :=
  ⟨fun i H => ∃ (xs : List V) (x : V), SqB t K H a xs ∧ xs[i]? = some x,
   fun i H v H' => ∃ T x, v = .ref T ∧ H T = none ∧ H' = upd H T (.tup [.int (i : Nat), x]) ∧ ∀ xs, SqB t K H a xs → xs[i]? = some x,
   fun i H => ∃ xs : List V, SqB t K H a xs ∧ xs.length = i⟩
theorem turn_enumB {P : Program} {w : World} {K : PySem.W.Frag} {elts : List Expr} {kk : Nat} {tpos : Pos} (t : Bool) (a e it : Addr) (nea : a ≠ e) (nei : a ≠ it) :
    Turn P w K (.Tuple elts kk tpos) (IteB t K a) [e, it] e (fun i h => (∃ old, IsEnum h e it ((i : Nat) : Int) old) ∧ itB t h it a i ∧ e ≠ it) where
  mem := List.mem_cons_self
  obj := fun i h ⟨⟨old, he⟩, hi, _⟩ b hb => by
    rcases List.mem_cons.mp hb with z | z
    · rw [z]; exact ⟨_, he, fun v q => nomatch q⟩
    · rw [List.mem_singleton.mp z]; exact itB_obj hi
  keep := fun i h h' ⟨⟨old, he⟩, hi, ne⟩ k => ⟨⟨old, k e List.mem_cons_self _ he⟩, itB_at hi fun o q => k it (List.mem_cons_of_mem _ List.mem_cons_self) o q, ne⟩
  item := by
    intro X hP hw hK hc i pins s σ H E I hf ⟨⟨old, he⟩, hit, hne⟩ ⟨xs, x, hq, hx⟩
    subst hP hw hK
    obtain ⟨its, rv, p, la⟩ := sqB_at I hq
    obtain ⟨u, hu, ru⟩ := rv.get hx
    have hel : e < s.heap.objs.size := Heap.lt_size he
    have hil : it < s.heap.objs.size := by obtain ⟨o, q, _⟩ := itB_obj hit; exact Heap.lt_size q
    have hlt : i < its.toArray.size := by have := (List.getElem?_eq_some_iff.mp hu).1; simpa using this
    refine wpAny_pyNext_enum_itemD (draws_B (by rw [show X.A.in1.handled = X.A.handled from rfl]; exact I.ok.hd hc) t it a nei its.toArray) he ⟨hit, p⟩ hlt hne (by simp [hne, nea.symm]) fun y h' tk hy ho hst hT hsz hk => ?_
    obtain rfl : u = y := by
      have q : its[i]? = some y := by simpa using hy
      rw [hu] at q
      exact Option.some.inj q
    refine ⟨_, rfl, wpAny_letOwnedTupleGo_enum (s := { s with heap := h', toks := tk + 1 }) ho fun h2 he2 sb => ?_⟩
    have hT2 : h2.get? s.heap.objs.size = some { cls := .type "tuple", data := .seq #[.int i tk, u] } := (sb.2 _ (Nat.ne_of_gt hel)).trans hT
    have new : ObjOk X.prog X.w (upd H s.heap.objs.size (.tup [.int (i : Nat), x])) h2 s.heap.objs.size (.tup [.int (i : Nat), x]) := ⟨(by decide : 2 ≤ sizeLine), [.int i tk, u], .cons ⟨_, rfl⟩ (.cons ru .nil), ⟨_, hT2, rfl, _, rfl⟩⟩
    have I1 : Inv X pins σ (upd H s.heap.objs.size (.tup [.int (i : Nat), x])) { s with heap := h2, toks := tk + 1 } :=
      I.turnedNew (ch := [e, it]) (fun b ob hb q => (sb.2 b fun z => hb (z ▸ List.mem_cons_self)).trans (hk b ob (fun z => hb (z ▸ List.mem_cons_self)) (fun z => hb (z ▸ List.mem_cons_of_mem _ List.mem_cons_self)) q)) hf (Nat.le_refl _) new
    refine ⟨.ref s.heap.objs.size, _, I1, rfl, ⟨_, x, rfl, I.hok.fresh (Nat.le_refl _), rfl, fun ys hy => by rw [sqB_inj I hy hq]; exact hx⟩, ⟨⟨u, ?_⟩, itB_at hst.1 fun o q => (sb.2 it (Ne.symm hne)).trans q, hne⟩, fun b hb => ?_⟩
    · rw [show ((i + 1 : Nat) : Int) = (i : Int) + 1 by omega]
      exact he2
    · have hb2 : b < s.heap.objs.size := by
        rcases List.mem_cons.mp hb with z | z
        · rw [z]; exact hel
        · rw [List.mem_singleton.mp z]; exact hil
      rw [upd_ne (Nat.ne_of_lt hb2)]
      exact (hf b hb).1
  done := by
    intro X hP hw hK hc i pins s σ H E I hf ⟨⟨old, he⟩, hit, hne⟩ ⟨xs, hq, hx⟩
    subst hP hw hK
    obtain ⟨its, rv, p, la⟩ := sqB_at I hq
    obtain ⟨f0, f1, f2, f3, f4, f5⟩ := hf it (List.mem_cons_of_mem _ List.mem_cons_self)
    have en : i = its.toArray.size := by have := rv.length; simp; omega
    refine wpAny_pyNext_enum_endD (draws_B (by rw [show X.A.in1.handled = X.A.handled from rfl]; exact I.ok.hd hc) t it a nei its.toArray) he (by rw [← en]; exact ⟨hit, p⟩) fun h' eb => ⟨rfl, I.turned (t' := s.toks) (fun b o hb q => eb b o hb q) f0 f1 f3 f4 f5⟩
  self := fun A i s Q E ⟨⟨_, he⟩, _⟩ h => wpAny_pyIter_enum he h
theorem pi_enumB {X : Cx} {e : Expr} {ta : TA} {p pos tpos : Pos} {elts : List Expr} {kk : Nat} (hg : Gl X "enumerate") (hm : X.mg "enumerate" = none) (ha : PA X [e] ta) (hs : starEach [e] X.env = [(false, eval e X.env)]) :
    PI X (.Tuple elts kk tpos) (.Call (.Name "enumerate" p) [e] [] pos) (fun σ H R => ta σ H fun vs H1 => ∃ t a xs, vs = [.ref a] ∧ SqB t X.K H1 a xs ∧ R (IteB t X.K a) H1) := by
  refine ⟨fun pins s σ H R I h => Call_ (ld_blt I hg hm boot_enumerate (PyProof.Rows.callWith_type1 (thn (ha.run pos pins s σ H _ I h) fun us s1 ⟨vs, H1, I1, r1, t, a, xs, ex, hq, q⟩ => ?_) hs rfl))⟩
  subst ex
  rw [Vals.ref1 r1]
  obtain ⟨its, rv, p', la⟩ := sqB_at I1 hq
  refine enum1_begins (begins_B t a its.toArray) p' fun h' he hit hk => wpAny_pyIter_enum he ?_
  have I2 : Inv X pins σ H1 { s1 with heap := h' } := I1.kept (t' := s1.toks) hk
  refine ⟨s1.heap.objs.size + 1, [s1.heap.objs.size + 1, s1.heap.objs.size], _, _, H1, rfl, I2, turn_enumB t a (s1.heap.objs.size + 1) s1.heap.objs.size (Nat.ne_of_lt (Nat.lt_succ_of_lt la)) (Nat.ne_of_lt la), ⟨⟨.none, he⟩, itB_new hit, Nat.succ_ne_self _⟩, fun b hb => ?_, q⟩
  have hle : s1.heap.objs.size ≤ b := by
    rcases List.mem_cons.mp hb with z | z
    · rw [z]; exact Nat.le_add_right _ _
    · rw [List.mem_singleton.mp z]; exact Nat.le_refl _
  exact I1.fpOk hle (I1.hok.fresh hle)
/-! ### zip(x, y) -/
def ItzB (t u : Bool) (K : PySem.W.Frag) (a b : Addr) : It :=
  ⟨fun i H => ∃ (xs ys : List V) (x y : V), SqB t K H a xs ∧ SqB u K H b ys ∧ xs[i]? = some x ∧ ys[i]? = some y,
   fun i H v H' => ∃ T x y, v = .ref T ∧ H T = none ∧ H' = upd H T (.tup [x, y]) ∧ (∀ xs, SqB t K H a xs → xs[i]? = some x) ∧ ∀ ys, SqB u K H b ys → ys[i]? = some y,
   fun i H => ∃ xs ys : List V, SqB t K H a xs ∧ SqB u K H b ys ∧ i ≤ xs.length ∧ i ≤ ys.length ∧ (i = xs.length ∨ i = ys.length)⟩
/-- five new places lie apart from two older ones -/
theorem ad_ne {a b : Nat} (h : a ≠ b) : @Ne Addr a b := h
theorem ad_no {a b c : Nat} (h : a ≠ b) (k : a ≠ c) : ¬ @Membership.mem Addr (List Addr) _ [b, c] a := fun m => by
  rcases List.mem_cons.mp m with z | z
  · exact h z
  · exact k (List.mem_singleton.mp z)
theorem sep_five (n a b : Nat) (la : a < n) (lb : b < n) : ZipSep2 (n + 4) (n + 2) (n + 3) n (n + 1) [n, a] [n + 1, b] where
  TIz := ad_ne (by omega)
  TOz := ad_ne (by omega)
  TITO := ad_ne (by omega)
  TIi1 := ad_ne (by omega)
  mem1 := List.mem_cons_self
  zf1 := ad_no (by omega) (by omega)
  Tf1 := ad_no (by omega) (by omega)
  TIi2 := ad_ne (by omega)
  mem2 := List.mem_cons_self
  zf2 := ad_no (by omega) (by omega)
  Tf2 := ad_no (by omega) (by omega)
  sep1_2 := ad_no (by omega) (by omega)
  sep2_1 := ad_no (by omega) (by omega)
theorem five {n c : Nat} (h : c ∈ [n + 4, n + 2, n + 3, n, n + 1]) : c = n + 4 ∨ c = n + 2 ∨ c = n + 3 ∨ c = n ∨ c = n + 1 := by simpa using h
theorem five_lt {n c N : Nat} (h : c ∈ [n + 4, n + 2, n + 3, n, n + 1]) (z : n + 4 < N) : c < N := by rcases five h with q | q | q | q | q <;> omega
theorem five_le {n c : Nat} (h : c ∈ [n + 4, n + 2, n + 3, n, n + 1]) : n ≤ c := by rcases five h with q | q | q | q | q <;> omega
theorem turn_zipB {P : Program} {w : World} {K : PySem.W.Frag} {elts : List Expr} {kk : Nat} {tpos : Pos} (t u : Bool) (a b n : Nat) (la : a < n) (lb : b < n) :
    Turn P w K (.Tuple elts kk tpos) (ItzB t u K a b) [n + 4, n + 2, n + 3, n, n + 1] (n + 4) (fun i h => IsZip h (n + 4) (n + 2) (n + 3) .none ∧ IsTupOf2 h (n + 2) (.ref n) (.ref (n + 1)) ∧ (∃ x y, IsTupOf2 h (n + 3) x y) ∧ itB t h n a i ∧ itB u h (n + 1) b i) where
  mem := List.mem_cons_self
  obj := fun i h ⟨hz, hTI, ⟨x, y, hTO⟩, h1, h2⟩ c hc => by
    rcases five hc with q | q | q | q | q
    · rw [q]; exact ⟨_, hz, fun v q => nomatch q⟩
    · rw [q]; exact ⟨_, hTI, fun v q => nomatch q⟩
    · rw [q]; exact ⟨_, hTO, fun v q => nomatch q⟩
    · rw [q]; exact itB_obj h1
    · rw [q]; exact itB_obj h2
  keep := fun i h h' ⟨hz, hTI, ⟨x, y, hTO⟩, h1, h2⟩ k => ⟨k (n + 4) (by simp) _ hz, k (n + 2) (by simp) _ hTI, ⟨x, y, k (n + 3) (by simp) _ hTO⟩, itB_at h1 fun o q => k n (by simp) o q, itB_at h2 fun o q => k (n + 1) (by simp) o q⟩
  item := by
    intro X hP hw hK hc i pins s σ H E I hf ⟨hz, hTI, ⟨x0, y0, hTO⟩, h1, h2⟩ ⟨xs, ys, x, y, hqx, hqy, hx, hy⟩
    subst hP hw hK
    obtain ⟨its, rv, p, _⟩ := sqB_at I hqx
    obtain ⟨its2, rv2, p2, _⟩ := sqB_at I hqy
    obtain ⟨v, hv, ru⟩ := rv.get hx
    obtain ⟨v2, hv2, ru2⟩ := rv2.get hy
    have hh : X.A.in1.handled = none := by rw [show X.A.in1.handled = X.A.handled from rfl]; exact I.ok.hd hc
    have lt1 : i < its.toArray.size := by have := (List.getElem?_eq_some_iff.mp hv).1; simpa using this
    have lt2 : i < its2.toArray.size := by have := (List.getElem?_eq_some_iff.mp hv2).1; simpa using this
    have zl : n + 4 < s.heap.objs.size := Heap.lt_size hz
    refine wpAny_pyNext_zipD2_item (sep_five n a b la lb) (draws_B hh t n a (Nat.ne_of_lt la) its.toArray) (draws_B hh u (n + 1) b (Nat.ne_of_lt (Nat.lt_succ_of_lt lb)) its2.toArray) hz hTI hTO ⟨h1, p⟩ ⟨h2, p2⟩ lt1 lt2 fun w1 w2 h' tk e1 e2 hz' hTO' st1 st2 hT hsz hk => ?_
    obtain rfl : v = w1 := by
      have q : its[i]? = some w1 := by simpa using e1
      rw [hv] at q
      exact Option.some.inj q
    obtain rfl : v2 = w2 := by
      have q : its2[i]? = some w2 := by simpa using e2
      rw [hv2] at q
      exact Option.some.inj q
    refine ⟨_, rfl, wpAny_letOwnedTupleGo_zip (s := { s with heap := h', toks := tk }) hz' fun h2' hz2 sb => ?_⟩
    have sb' : ∀ c, c ≠ n + 4 → h2'.get? c = h'.get? c := fun c nc => sb.2 c nc
    have hT2 : h2'.get? s.heap.objs.size = some { cls := .type "tuple", data := .seq #[v, v2] } := (sb' _ (Nat.ne_of_gt zl)).trans hT
    have new : ObjOk X.prog X.w (upd H s.heap.objs.size (.tup [x, y])) h2' s.heap.objs.size (.tup [x, y]) := ⟨(by decide : 2 ≤ sizeLine), [v, v2], .cons ru (.cons ru2 .nil), ⟨_, hT2, rfl, _, rfl⟩⟩
    have I1 : Inv X pins σ (upd H s.heap.objs.size (.tup [x, y])) { s with heap := h2', toks := tk } :=
      I.turnedNew (t' := tk) (ch := [n + 4, n + 2, n + 3, n, n + 1]) (fun c o hb q => (sb' c fun z => hb (by rw [z]; simp)).trans (hk c o (fun z => hb (by rw [z]; simp)) (fun z => hb (by rw [z]; simp)) (fun z => hb (by rw [z]; simp)) (fun z => hb (by rw [z]; simp)) q)) hf (Nat.le_refl _) new
    refine ⟨.ref s.heap.objs.size, _, I1, rfl, ⟨_, x, y, rfl, I.hok.fresh (Nat.le_refl _), rfl, fun l hl => by rw [sqB_inj I hl hqx]; exact hx, fun l hl => by rw [sqB_inj I hl hqy]; exact hy⟩, ⟨hz2, (sb' _ (ad_ne (by omega))).trans (hk _ _ (ad_ne (by omega)) (ad_ne (by omega)) (ad_ne (by omega)) (ad_ne (by omega)) hTI), ⟨v, v2, (sb' _ (ad_ne (by omega))).trans hTO'⟩, itB_at st1.1 fun o q => (sb' _ (ad_ne (by omega))).trans q, itB_at st2.1 fun o q => (sb' _ (ad_ne (by omega))).trans q⟩, fun c hcm => ?_⟩
    have hlt : c < s.heap.objs.size := five_lt hcm zl
    rw [upd_ne (Nat.ne_of_lt hlt)]
    exact (hf c hcm).1
  done := by
    intro X hP hw hK hc i pins s σ H E I hf ⟨hz, hTI, ⟨x0, y0, hTO⟩, h1, h2⟩ ⟨xs, ys, hqx, hqy, l1, l2, hend⟩
    subst hP hw hK
    obtain ⟨its, rv, p, _⟩ := sqB_at I hqx
    obtain ⟨its2, rv2, p2, _⟩ := sqB_at I hqy
    have hh : X.A.in1.handled = none := by rw [show X.A.in1.handled = X.A.handled from rfl]; exact I.ok.hd hc
    have e1 : its.toArray.size = xs.length := by rw [List.size_toArray, rv.length]
    have e2 : its2.toArray.size = ys.length := by rw [List.size_toArray, rv2.length]
    exact wpAny_pyNext_zipD2_end (sep_five n a b la lb) (draws_B hh t n a (Nat.ne_of_lt la) its.toArray) (draws_B hh u (n + 1) b (Nat.ne_of_lt (Nat.lt_succ_of_lt lb)) its2.toArray) hz hTI hTO ⟨h1, p⟩ ⟨h2, p2⟩ (by omega) (by omega) (by omega) fun h' tk hk =>
      ⟨rfl, I.turnedL (t' := tk) (ch := [n + 4, n + 2, n + 3, n, n + 1]) (fun c o hb q => hk c o (fun z => hb (by rw [z]; simp)) (fun z => hb (by rw [z]; simp)) (fun z => hb (by rw [z]; simp)) (fun z => hb (by rw [z]; simp)) q) hf⟩
  self := fun A i s Q E st h => wpAny_pyIter_zip st.1 h
theorem pi_zipB {X : Cx} {e e2 : Expr} {ta : TA} {p pos tpos : Pos} {elts : List Expr} {kk : Nat} (hg : Gl X "zip") (hm : X.mg "zip" = none) (ha : PA X [e, e2] ta)
    (hs : starEach [e, e2] X.env = (false, eval e X.env) :: starEach [e2] X.env) (hp : (backTo pos (starEach [e2] X.env)).any (·.1) = false) :
    PI X (.Tuple elts kk tpos) (.Call (.Name "zip" p) [e, e2] [] pos) (fun σ H R => ta σ H fun vs H1 => ∃ t u a b xs ys, vs = [.ref a, .ref b] ∧ SqB t X.K H1 a xs ∧ SqB u X.K H1 b ys ∧ R (ItzB t u X.K a b) H1) := by
  refine ⟨fun pins s σ H R I h => Call_ (ld_blt I hg hm PyProof.Rows.boot_zip (PyProof.Rows.callWith_type1 (thn (ha.run pos pins s σ H _ I h) fun us s1 ⟨vs, H1, I1, r1, t, u, a, b, xs, ys, ex, hqx, hqy, q⟩ => ?_) hs hp))⟩
  subst ex
  obtain ⟨y1, y2, rfl, ry1, ry2⟩ := vals2 r1
  cases ry1
  cases ry2
  obtain ⟨its, rv, p1, la⟩ := sqB_at I1 hqx
  obtain ⟨its2, rv2, p2, lb⟩ := sqB_at I1 hqy
  refine zip_begins2 (begins_B t a its.toArray) (begins_B u b its2.toArray) p1 p2 fun h' hz hTI hTO g1 g2 hsz hk => wpAny_pyIter_zip hz ?_
  have I2 : Inv X pins σ H1 { s1 with heap := h' } := I1.kept (t' := s1.toks) hk
  refine ⟨s1.heap.objs.size + 4, [s1.heap.objs.size + 4, s1.heap.objs.size + 2, s1.heap.objs.size + 3, s1.heap.objs.size, s1.heap.objs.size + 1], _, _, H1, rfl, I2, turn_zipB t u a b s1.heap.objs.size la lb, ⟨hz, hTI, ⟨_, _, hTO⟩, itB_new g1, itB_new g2⟩, fun c hcm => ?_, q⟩
  have hle : s1.heap.objs.size ≤ c := five_le hcm
  exact I1.fpOk hle (I1.hok.fresh hle)
end Zh

set_option maxHeartbeats 2000000
/-! Zh4: an exception that a clause catches and keeps: try: .. except C as n: m = n. -/
namespace Zh
open PySem PySem.Spec PyProof.Rows L2

/-- a caught exception that lies at a: its class, its dict -/
def KeptX (cls : Value) (d : Option Addr) (a : Addr) : HO := .ext fun h => ∃ (oe : Obj) (vs : Array Value), h.get? a = some oe ∧ Zc cls d oe ∧ oe.data = .fields vs
section
variable {X : Cx} {pins : List (Addr × Obj)} {σ : L2.St} {H : Hp} {s : Shared} {a : Addr} {oe : Obj} {vs : Array Value} {cls : Value} {d : Option Addr}
theorem keptX_own {x : Addr} : KeptX cls d a ≠ .own x := fun z => by
  have z' : HO.ext _ = HO.own x := z
  cases z'
/-- a pinned exception is tracked from here on -/
theorem keep_exc (I : Inv X ((a, oe) :: pins) σ H s) (hz : Zc cls d oe) (hd : oe.data = .fields vs) (n0 : X.s_0.heap.get? a = none) (np : ∀ p ∈ X.pn ++ pins, p.1 ≠ a) : Inv X pins σ (upd H a (KeptX cls d a)) s := by
  obtain ⟨ha, hn, nl, nf, nc⟩ := I.pin (a, oe) (List.mem_append_right _ List.mem_cons_self)
  have ha : s.heap.get? a = some oe := ha
  have hn : H a = none := hn
  have other : ∀ {b : Addr} {o : HO}, H b = some o → b ≠ a := fun {b o} q z => by
    rw [z, hn] at q
    cases q
  have was : ∀ {b : Addr} {o : Obj}, X.s_0.heap.get? b = some o → b ≠ a := fun {b o} q z => by
    rw [z, n0] at q
    cases q
  have cells : ∀ x c, X.env.cells.lookup x = some c → c ≠ a := fun x c e z => by
    obtain ⟨v, o, e1, e2⟩ := I.cell x c e
    rw [z, ha] at e1
    cases e1
    exact nc v e2
  refine ⟨I.ok, I.os, I.bare, ⟨I.base.keep, I.base.slot, fun b o q n hx => ?_, I.base.there, fun b xs q => ?_, fun b o u q => ?_, fun b ps q => ?_⟩, I.loc, I.cell, ?_, fun x c e => ?_, fun p hp => ?_, fun b o q => ?_, I.len⟩
  · rw [upd_ne (was q)]
    exact I.base.free b o q n hx
  · have t := I.base.tups b xs q
    rw [upd_ne (other t)]
    exact t
  · have t := I.base.frzs b o u q
    rw [upd_ne (other t)]
    exact t
  · obtain ⟨m, t⟩ := I.base.tbls b ps q
    exact ⟨m, by rw [upd_ne (other t)]; exact t⟩
  · rw [upd_ne (Ne.symm nl)]
    exact I.free
  · rw [upd_ne (cells x c e)]
    exact I.freeC x c e
  · obtain ⟨p1, p2, p3, p4, p5⟩ := I.pin p (by
      rcases List.mem_append.mp hp with z | z
      · exact List.mem_append_left _ z
      · exact List.mem_append_right _ (List.mem_cons_of_mem _ z))
    exact ⟨p1, by rw [upd_ne (np p hp)]; exact p2, p3, p4, p5⟩
  · by_cases hb : b = a
    · subst hb
      rw [upd_same] at q
      cases q
      exact ⟨⟨oe, vs, ha, hz, hd⟩, ⟨oe, ha⟩, fun _ _ ⟨o, v, q, r⟩ k => ⟨o, v, k o q, r⟩⟩
    · rw [upd_ne hb] at q
      exact (I.hok b o q).stay (fun _ _ _ z => z) (fun c z => by rw [upd_ne (other z)]; exact z) fun c xs z => by rw [upd_ne (other z)]; exact z

/-- what the clause wishes of the exceptions of its body: the name of the clause at i, the name that keeps at j -/
def wKeep (K : PySem.W.Frag) (c : Value) (i j : Nat) (Wout : WX) (D : Ends) : WX := fun cls d σ H =>
  ∃ b, PySem.W.exmOne K cls c = some b ∧ (b = true → ∀ a, H a = none → D.nx (((σ.set i (some (.ref a))).set j (some (.ref a))).set i none) (upd H a (KeptX cls d a))) ∧ (b = false → Wout cls d σ H)
end
section
variable {X : Cx} {x n m : Str} {c : Value} {i j : Nat} {body : List Stmt} {np p1 p2 p3 pos pos' : Pos} {tb : WX → TS} {Wout : WX}
theorem ps_try_keep (hs : X.stack = X.env :: X.outer) (hf : X.env.frame = some X.env.locals) (hex : X.ex = []) (hN : X.N.Nodup) (hi : X.N[i]? = some n) (hj : X.N[j]? = some m) (hln : X.env.kindOf n = some .local) (hlm : X.env.kindOf m = some .local) (hc : Names X x c) (tk : Takes X Wout) (hdn : (n == ("__debug__" : Str)) = false) (hcn : (n == ("__classdict__" : Str)) = false)
    (hb : ∀ (W : WX) (pn : List (Addr × Obj)) (xe : Value → Shared → Prop), Takes (X.tr pn xe) W → PassesOwn (model X.prog X.w) X.A X.env xe → PSs (X.tr pn xe) body (tb W)) :
    PS X (.Try body [.ExceptHandler (some (.Name x np)) (some n) [.Assign [.Name m p1] (.Name n p2) p3] pos'] [] [] pos) (fun D σ H => tb (wKeep X.K c i j Wout D) D σ H) := by
  have gm : Loc X.env.scope m := .inl hlm
  have gn : Loc X.env.scope n := .inl hln
  have suite : ∀ (a : Addr) (oe : Obj) (pn : List (Addr × Obj)), PSs (X.suite a ((a, oe) :: pn)) [.Assign [.Name m p1] (.Name n p2) p3] (fun D σ H => ∃ v, σ[i]? = some (some v) ∧ D.nx (σ.set j (some v)) H) := fun a oe pn => by
    refine ⟨fun pins s σ H D I q => ?_⟩
    refine (pss_cons (ps_set (X := X.suite a ((a, oe) :: pn)) hN hj gm (pe_var (X := X.suite a ((a, oe) :: pn)) hi (.inl hln) hdn hcn) rfl (.inr hlm)) pss_nil).run pins s σ H D I ?_
    exact q
  refine ⟨fun pins s σ H D I h => ?_⟩
  have ok := I.ok
  have fr0 : X.A.frames = some (X.env :: X.outer) := by rw [ok.frames, hs]
  refine wpAny_Try_except ?_
  refine wpAny_mono ((hb (wKeep X.K c i j Wout D) (X.pn ++ pins) (fun e s₁ => wpAny (model X.prog X.w) X.A (noteFrame e X.env) (fun _ s₂ => wpAny (model X.prog X.w) X.A (setFlight e none) (fun _ s₃ =>
    wpAny (model X.prog X.w) X.A (handleBy e X.env [.ExceptHandler (some (.Name x np)) (some n) [.Assign [.Name m p1] (.Name n p2) p3] pos']) (SP X pins D) X.xe s₃) X.xe s₂) X.xe s₁) (fun u s' hx => ?_) PassesOwn.looking).run [] s σ H D (I.toTry _) h) (fun f s1 q => ?_) (fun e s1 q => q)
  · obtain ⟨a, B, sI, pins2, σ2, H2, cls, d, rfl, J0, nb, up, sky, na, os, ag, b, eb, yes, no⟩ := hx
    have J : Inv X pins σ2 H2 sI := J0.ofTry ok
    rw [hs] at sky
    show wpAny (model X.prog X.w) X.A (noteFrame (.ref a) X.env) _ _ _
    refine Sky.land Zc.steady fr0 hf sky fun h3 fl up3 => ?_
    have J3 : Inv X pins σ2 H2 { s' with heap := h3 } := J.landed nb fl.1 (up.trans up3) os ag
    obtain ⟨o3, v3, g3, z3, d3⟩ := fl.there
    have out : a ∉ frs (X.env :: X.outer) := fun hm => by
      obtain ⟨_, o', e', hnf⟩ := fl.2.2.1.mem hm
      rw [g3] at e'
      cases e'
      exact hnf _ d3
    have aL : a ≠ X.env.locals := fun z => out (List.mem_filterMap.mpr ⟨X.env, List.mem_cons_self, by rw [hf, z]⟩)
    have aF : a ∉ X.fs := fun hm => by
      obtain ⟨e, he, q⟩ := List.mem_filterMap.mp hm
      exact out (List.mem_filterMap.mpr ⟨e, List.mem_cons_of_mem _ he, q⟩)
    have notI : sI.heap.get? a = none := by
      cases q : sI.heap.get? a with
      | none => rfl
      | some o =>
        have z := nb a o q (by rw [hs]; exact out)
        rw [fl.2.1] at z
        cases z
    have not0 : X.s_0.heap.get? a = none := by
      cases q : X.s_0.heap.get? a with
      | none => rfl
      | some o =>
        obtain ⟨o', z⟩ := J.base.there a o q (by rw [hex]; exact fun z => nomatch z)
        rw [notI] at z
        cases z
    have noP : ∀ p ∈ X.pn ++ pins, p.1 ≠ a := fun p hp z => by
      have q := (J.pin p hp).1
      rw [z, notI] at q
      cases q
    have S3 := J3.suite g3 d3 na aL aF
    refine wpAny_handleBy_cons (codeAny_handlers_test ?_) (by intro q; cases q)
    have LT : PySem.W.Looks (model X.prog X.w) h3 (typeOf (.ref a)) cls := fun A Q E s k q => wpAny_typeOf_ref (k _ _ g3) (by rw [z3.1]; exact q)
    have LM := PySem.W.exm_one (M := model X.prog X.w) (J3.kIn) LT eb
    have read : ∀ {Q : Value → Shared → Prop} {E : Value → Shared → Prop}, Q c { s' with heap := h3 } → wpAny (model X.prog X.w) (X.A.mark (some (.ref a))) (eval (.Name x np) X.env) Q E { s' with heap := h3 } := fun {Q E} q => by
      obtain ⟨hg, hdbg, hm | ⟨hm, hv, hnn⟩⟩ := hc
      · exact ld_glob (X := X.suite a ((a, o3) :: (X.pn ++ pins))) S3 hg hm q hdbg
      · exact ld_blt (X := X.suite a ((a, o3) :: (X.pn ++ pins))) S3 hg hm hv q hnn hdbg
    refine read (LM.here ?_)
    cases b with
    | true =>
      refine codeAny_handlers_suite_as ?_
      refine HandSPX.lands_againZ fl fun h4 fl4 up4 => ?_
      have J4 : Inv X pins σ2 H2 { s' with heap := h4 } := J.landed nb fl4.1 ((up.trans up3).trans up4) os ag
      obtain ⟨o4, v4, g4, z4, d4⟩ := fl4.there
      have S4 := J4.suite g4 d4 na aL aF
      have li : i < σ2.length := by rw [J.len]; exact (List.getElem?_eq_some_iff.mp hi).1
      refine store_ok (X := X.suite a ((a, o4) :: (X.pn ++ pins))) (v := .ref a) S4 hN hi gn rfl (fun s5 S5 => ?_) (.inr hln)
      refine wpAny_mono ((suite a o4 (X.pn ++ pins)).run [] s5 _ H2 { nx := fun σ' H' => σ' = (σ2.set i (some (.ref a))).set j (some (.ref a)) ∧ H' = H2, rt := fun _ _ => False, bk := fun _ _ => False, ct := fun _ _ => False } S5 ⟨.ref a, List.getElem?_set_self li, rfl, rfl⟩) (fun f s6 q6 => ?_) (fun _ _ z => False.elim z)
      cases f with
      | next =>
        obtain ⟨σ6, H6, S6, e1, e2⟩ := q6
        subst e1 e2
        have P6 : Inv X ((a, o4) :: pins) ((σ2.set i (some (.ref a))).set j (some (.ref a))) H6 s6 :=
          ⟨ok, S6.os, S6.bare, S6.base, S6.loc, S6.cell, S6.free, S6.freeC, fun p hp => S6.pin p (List.mem_append_left _ (by
            rcases List.mem_append.mp hp with z | z
            · exact List.mem_cons_of_mem _ (List.mem_append_left _ z)
            · rcases List.mem_cons.mp z with z | z
              · rw [z]; exact List.mem_cons_self
              · exact List.mem_cons_of_mem _ (List.mem_append_right _ z))), S6.hok, S6.len⟩
        exact gone_ok P6 hN hi hln fun s7 J7 => ⟨_, _, keep_exc J7 z4 d4 not0 noP, yes rfl a na⟩
      | brk =>
        obtain ⟨_, _, _, z⟩ := q6
        exact False.elim z
      | cont =>
        obtain ⟨_, _, _, z⟩ := q6
        exact False.elim z
      | ret u =>
        obtain ⟨_, _, _, _, _, z⟩ := q6
        exact False.elim z
    | false =>
      show wpAny _ X.A (handleBy (.ref a) X.env []) _ _ _
      refine wpAny_handleBy_nil ?_
      obtain ⟨k1, k2, k3, oe, vs, T, oT, ts', he, hz, hd, h1, hr⟩ := id fl
      unfold PySem.passOn
      refine wpAny_bind (wpAny_field he hd h1 ?_)
      rw [if_neg (show ¬ ((Value.ref T == Value.none) = true) from by simp)]
      have fin : wpAny (model X.prog X.w) X.A (setFlight (.ref a) X.env.frame) (fun _ s4 => wpAny (model X.prog X.w) X.A (throw (.ref a) : Sem Flow) (SP X pins D) X.xe s4) X.xe { s' with heap := h3 } := by
        rw [hf]
        refine HandSPX.setFlight_upZ fl fun h4 hh4 up4 => wpAny_throw (tk _ _ ?_)
        exact ⟨a, B, sI, pins, σ2, H2, cls, d, rfl, J, nb, (up.trans up3).trans up4, .inr (.inr (by rw [hs]; exact hh4)), na, os, ag, no rfl⟩
      first
        | exact wpAny_bind (wpAny_pure (wpAny_bind fin))
        | exact wpAny_bind fin
  · cases f with
    | next =>
      obtain ⟨a1, a2, a3, a4⟩ := q
      exact wpAny_execs_nil ⟨a1, a2, a3.ofTry ok, a4⟩
    | brk =>
      obtain ⟨a1, a2, a3, a4⟩ := q
      exact ⟨a1, a2, a3.ofTry ok, a4⟩
    | cont =>
      obtain ⟨a1, a2, a3, a4⟩ := q
      exact ⟨a1, a2, a3.ofTry ok, a4⟩
    | ret u =>
      obtain ⟨a0, a1, a2, a3, a4, a5⟩ := q
      exact ⟨a0, a1, a2, a3.ofTry ok, a4, a5⟩
end
end Zh

set_option maxHeartbeats 2000000
/-! Zh5: error classes whose __init__ hands on to their base class by its name and keeps one thing. -/
namespace Zh
open PySem PySem.Spec PyProof.Rows L2

/-- the base class, without an __init__ of its own -/
structure BaseC (K : PySem.W.Frag) (P : Addr) : Prop where
  sp : PySem.W.specialIn K (.ref P) "__getattribute__" = some (some (.builtin "type.__getattribute__"))
  rd : PySem.W.readsIn K P (.type "type") = true
  fi : PySem.W.findCls K (.ref P) (.type "type") "__init__" = some (.val (.builtin "ValueError.__init__"))
section
variable {X : Cx} {e : Expr} {es : List Expr} {ta : TA} {c f : Str} {P : Addr} {p1 p2 pos : Pos}
/-- Base.__init__(self, ..) -/
theorem pe_binit {pl : Sem Bool} (hg : Gl X c) (hm : X.mg c = some (.ref P)) (hd : (c == ("__debug__" : Str)) = false) (B : BaseC X.K P) (ha : PA X (e :: es) ta)
    (hc : eval (.Call (.Attribute (.Name c p1) "__init__" p2) (e :: es) [] pos) X.env = (do
      let ov ← eval (.Name c p1) X.env
      standAt p2.atName
      let (f, first) ← holding [ov] (getMethod ov "__init__" pl)
      callWith pos f first (backTo pos (starEach (e :: es) X.env)) (backToKw pos (keywordEach [] X.env))))
    (he : starEach (e :: es) X.env = (false, eval e X.env) :: starEach es X.env) (hpl : (backTo pos (starEach es X.env)).any (·.1) = false) :
    PE X (.Call (.Attribute (.Name c p1) "__init__" p2) (e :: es) [] pos) (tVeI X.K ta) := by
  refine ⟨fun pins s σ H Q I h => ?_⟩
  refine PySem.W.methodCall_KW (pl := pl) (ld_glob I hg hm ?_ hd) hc
  refine PySem.W.method_cls I.kIn B.sp (PySem.W.cls_value I.kIn B.rd B.fi rfl ?_)
  show wpAny _ _ (callWith pos (Value.builtin "ValueError.__init__") [] (backTo pos (starEach (e :: es) X.env)) []) _ _ _
  refine PyProof.Rows.callWith_method1 (thn (ha.run pos pins _ σ H _ (I.tok _) h) fun us s1 ⟨vs, H1, I1, r1, a, C, ws, ev, hl, T, ea, q⟩ => ?_) he hpl
  subst ev
  cases r1 with
  | @cons _ u0 _ ur ra rw' =>
    obtain rfl : u0 = Value.ref a := ra
    have hlen : ur.length ≤ sizeLine := by
      rw [← Paired.length rw', sizeLine_eq]
      omega
    exact oinit_ok T I1 ea hlen fun s' J => ⟨.non, H1, J, rfl, q⟩
/-- what such an __init__(self, f) promises -/
def spInit (K : PySem.W.Frag) (f : Str) : Sp := fun vs H Q _ => ∃ (a C : Addr) (y : V), vs = [.ref a, y] ∧ OexC K C ∧ PySem.W.findIn K (.ref C) f = some none ∧ H a = some (exo a C none) ∧
  ∀ dx, H dx = none → dx ≠ a → Q .non (upd (upd H dx (exd dx [(f, y)])) a (exo a C (some dx)))
end
end Zh

/-! Zh6: repr of data where nothing is being shown yet (the law's own frame), and the law's end for a def that leans on that. -/
namespace Zh
open PySem PySem.Spec PyProof.Rows L2 Att

mutual
theorem dp_nodict {K : PySem.W.Frag} {H : Hp} : ∀ (d : PyData) (v : V), Dp K H v d → d.hasDict = false
  | .none, _, _ => rfl
  | .bool _, _, _ => rfl
  | .int _, _, _ => rfl
  | .str _, _, _ => rfl
  | .list ds, _, h => by
    cases h with
    | lst _ q => show PyData.hasDictAll ds = false; exact dp_nodicts ds _ q
  | .tuple ds, _, h => by
    cases h with
    | tup _ q => show PyData.hasDictAll ds = false; exact dp_nodicts ds _ q
  | .dict _, _, h => nomatch h
theorem dp_nodicts {K : PySem.W.Frag} {H : Hp} : ∀ (ds : List PyData) (vs : List V), DpAll K H vs ds → PyData.hasDictAll ds = false
  | [], _, _ => rfl
  | d :: ds, _, h => by
    cases h with
    | cons p q =>
      show (PyData.hasDict d || PyData.hasDictAll ds) = false
      rw [dp_nodict d _ p, dp_nodicts ds _ q]; rfl
end
def rRepr (K : PySem.W.Frag) : List V → Hp → VK → Prop := fun xs H Q => ∃ (v : V) (d : PyData), xs = [v] ∧ Dp K H v d ∧ d.showable = true ∧ d.depth ≤ 64 ∧ d.shown.length ≤ sizeLine ∧ Q (.str d.shown) H
theorem cr_repr {X : Cx} (hu : X.A.units + 65 < cLine) (gd : X.A.guards = some []) : CallR X (.builtin "repr") (rRepr X.K) := by
  intro pins s σ H xs us Q I r h
  obtain ⟨v, d, rfl, dp, sh, de, sz, q⟩ := h
  obtain ⟨u, rfl, ru⟩ := vals1 r
  have nd := dp_nodict d v dp
  obtain ⟨as, rd⟩ := Dp.reads I d v u dp ru
  have heap : ∀ a : Addr, u = .ref a → wpAny (model X.prog X.w) X.A (call (.builtin "repr") [u]) (EP X pins σ Q) X.xe s := by
    rintro a rfl
    exact PySem.repr_of_reads' rd sh (PyData.noDict_hsm nd) gd (by omega) (fun _ _ e => e) (fun h' w tk hk => ⟨.str _, H, I.kept hk, ⟨w, rfl⟩, q⟩) sz
  cases rd with
  | none => exact PySem.P.repr_of_none ⟨.str _, H, I.tok _, ⟨_, rfl⟩, q⟩
  | bool b => exact PySem.P.repr_of_bool ⟨.str _, H, I.tok _, ⟨_, rfl⟩, q⟩
  | int i t => exact PySem.P.repr_of_int (of_decide_eq_true sh) ⟨.str _, H, I.tok _, ⟨_, rfl⟩, q⟩
  | str x t => exact PySem.P.repr_of_str ⟨.str _, H, I.tok _, ⟨_, rfl⟩, q⟩ sz
  | list _ _ _ _ => exact heap _ rfl
  | tuple _ _ _ _ => exact heap _ rfl
  | dict _ _ _ _ _ => cases nd

/-! ### the one call from outside -/
/-- a def's promise for the call that the claim makes: no frame below it, nothing being shown -/
def TopOk (P : Program) (w : World) (K : PySem.W.Frag) (mg : Str → Option Value) (base : Heap) (CX : CXT) (f : Addr) (fd : FuncData) (x : Str) (sp : Sp) : Prop :=
  ∀ (s : Shared) (H : Hp) (u : Value) (v : V) (Q : VK) (E : XK), Env0 P w K mg base callerA [] s H → BindsTo s fd ⟨[u], []⟩ [(x, u)] → RelV v u → sp [v] H Q E →
    codeAny (model P w) callerA (.call (.ref f) ⟨[u], []⟩) (CR CX [] P w H s Q E) s
theorem top_of {CX : CXT} {P : Program} {w : World} {K : PySem.W.Frag} {mg : Str → Option Value} {base : Heap} {f : Addr} {name qual x : Str} {params : Arguments} {body : List Stmt} {scope : Scope} {dV kV doc pm cdv ct oc : Value} {an od : Option Addr}
    {osl : Array (Option Value)} {N : List Str} {sp : Sp} (there : K.lookup f = some ⟨oc, od, .func (PySem.W.fnOf name qual params body scope dV kV doc pm an cdv ct), osl⟩) (code : PySem.W.codeIn K cdv qual = true) (sc : FnScope N [x] scope) (room : Room 1 callerA)
    (go : ∀ (s : Shared) (H : Hp) (v : V) (Q : VK) (E : XK), sp [v] H Q E → ∃ t, PSs (cxOf CX P w K mg base N qual scope f cdv callerA [] s H E) body t ∧ t { nx := fun _ H' => Q .non H', rt := Q } (start N [v]) H) :
    TopOk P w K mg base CX f (PySem.W.fnOf name qual params body scope dV kV doc pm an cdv ct) x sp := by
  intro s H u v Q E en bd ru want
  have stays : ∀ b o, base.get? b = some o → s.heap.get? b = some o := fun b o q => (en.bs b o q).1
  have inK : K.In s.heap := en.mod.kin.keeps stays
  have free := en.mod.nolimit.keeps stays
  have par : ∀ y ∈ [(x, u)], scope.names.lookup y.1 = some .local ∨ (scope.names.lookup y.1 = some .cell ∧ ((cellsFrom (s.heap.objs.size + 1) scope.names []).lookup y.1).isSome = true) := by
    intro y hy
    obtain rfl := List.mem_singleton.mp hy
    exact (sc.par x (List.mem_singleton_self x)).imp id fun q => ⟨q, PySem.W.cellsFrom_some _ _ _ (.inl q)⟩
  refine codeAny_call_function (by have := room.dp; omega) (inK _ _ there) rfl sc.co sc.gen rfl (PySem.W.codeRec_of inK code) (bd _ _ _ _ (wpAny_newFunctionEnv_cells sc.kind par fun env he s1 made => ?_))
  subst he
  refine ⟨free.keeps made.toInCall.keep, codeAny_func ?_⟩
  obtain ⟨t, meaning, holds⟩ := go s H v Q E want
  have J := inv_start (CX := CX) (E := E) (qual := qual) (f := f) (cd := cdv) sc room.hd en (vs := [v]) rfl (.cons ru .nil) made
  refine wpAny_mono (meaning.run [] s1 _ H _ J holds) (fun fl s2 hs => ?_) fun _ _ z => z
  match fl, hs with
  | .ret y, ⟨z, _, H2, J2, r2, q2⟩ => exact ⟨z, H2, J2.os, J2.bare, J2.base, J2.hok, r2, q2⟩
  | .next, ⟨_, H2, J2, q2⟩ => exact ⟨.non, H2, J2.os, J2.bare, J2.base, J2.hok, rfl, q2⟩
  | .brk, ⟨_, _, _, q2⟩ => exact q2.elim
  | .cont, ⟨_, _, _, q2⟩ => exact q2.elim
/-- from an abstract heap in which the script alone may be tracked -/
theorem top_core {P : Program} {w : World} {K : PySem.W.Frag} {mg mb : Str → Option Value} {CX : CXT} {fa a : Addr} {fd : FuncData} {x : Str} {sp : Sp} {s : Shared} {vs : List Value} {ns : List Int} {H : Hp}
    (inK : K.In s.heap) (hm : s.heap.Ns mainGlobals mg) (hb : s.heap.Ns builtinsNs mb) (boot : ∀ x : Str, x ≠ "__name__" → mb x = bootBuiltins x) (free : s.heap.NoLimit) (gens : s.gens = #[])
    (script : s.heap.get? a = some { cls := .type "list", data := .seq vs.toArray })
    (F : ∀ base : Heap, K.In base → base.Ns mainGlobals mg → TopOk P w K mg base CX fa fd x sp) (bd : ∀ u : Value, BindsTo s fd ⟨[u], []⟩ [(x, u)])
    (want : sp [.ref a] H (fun v _ => v = .bl true) fun _ _ _ => False) (noexc : ∀ e s', CX [] H s (fun _ _ _ => False) e s' → False)
    (only : Only H) (ok : HOk P w H s.heap) (alone : ∀ b, b ≠ a → H b = none) (own : H a = none ∨ K.lookup a = none) :
    codeAny (model P w) callerA (.call (.ref fa) ⟨[.ref a], []⟩) (fun r s' => r = .ok (.ret (.bool true)) ∧ OldK s.heap s'.heap ∧ s'.os = s.os ∧ AllBare s'.gens) s := by
  have still : ∀ {b : Addr} {o : Obj}, H b = none → s.heap.get? b = some o → (hidT s.heap H).get? b = some o := fun n e => hidT_get e n
  have names : ∀ {b : Addr} {m : Str → Option Value}, s.heap.Ns b m → (hidT s.heap H).Ns b m := by
    rintro b m ⟨o, es, ep, e, d, r⟩
    refine ⟨o, es, ep, still ?_ e, d, r⟩
    by_cases z : b = a
    · subst z
      rw [script] at e
      cases e
      cases d
    · exact alone b z
  have inB : K.In (hidT s.heap H) := fun b o e => still (by
    by_cases z : b = a
    · subst z
      rcases own with q | q
      · exact q
      · rw [show K.lookup b = some o from e] at q
        cases q
    · exact alone b z) (inK b o e)
  obtain ⟨mc, l1, l2⟩ := free
  have en : Env0 P w K mg (hidT s.heap H) callerA [] s H :=
    { frames := rfl, mod := ⟨inB, names hm, ⟨mb, names hb, boot⟩, ⟨mc, names l1, l2⟩⟩, bs := fun b o e => of_hidT e, bsz := Nat.le_of_eq (hidT_size _ _), funs := trivial, frf := fun b z => absurd z List.not_mem_nil, hok := ok, bare := .of_eq gens }
  refine codeAny_mono (F _ inB (names hm) s H (.ref a) (.ref a) _ _ en (bd _) rfl want) fun r s' h => ?_
  match r, h with
  | .error e, h => exact (noexc e s' h).elim
  | .ok .next, h => exact h.elim
  | .ok .brk, h => exact h.elim
  | .ok .cont, h => exact h.elim
  | .ok (.ret u), ⟨v, H', os, bare, un, ok', rel, eq⟩ =>
    obtain rfl : v = .bl true := eq
    obtain rfl : u = Value.bool true := rel
    refine ⟨rfl, OldK.of_keep fun b o e => ?_, os, bare⟩
    rcases only b with n | ⟨ob, xs, n⟩
    · exact un.keep b o e n (fun z => nomatch z) (fun z => nomatch z)
    · have old := (ok b _ n).1
      rw [e] at old
      cases old
      exact (ok' b _ (un.frzs b _ _ n)).1
/-- the goal that k_head leaves, for a law's def that leans on nothing being shown -/
theorem walk_top {l : PySem.W.OpenLaw} {n : Nat} {q : Program} {loose : List Str} {XP : (Str → Option Value) → Heap → Prop} {YP : World → Heap → Prop} {d : DefRec} {K : Params → PySem.W.Frag} {CX : World → CXT} {sp : World → Sp} {x : Str}
    (most : l.most = some n) (line : n ≤ sizeLine) (plain : d.params.defaults = []) (hY : ∀ (w : World) (h : Heap), YP w h → (K w.params).In h)
    (F : ∀ (w : World) (mg : Str → Option Value) (fa : Addr) (h : Heap), (K w.params).In h → h.Ns mainGlobals mg → mg d.name = some (.ref fa) →
      ∃ fd : FuncData, (∀ (s : Shared) (u : Value), BindsTo s fd ⟨[u], []⟩ [(x, u)]) ∧ ∀ base : Heap, (K w.params).In base → base.Ns mainGlobals mg → TopOk l.prog w (K w.params) mg base (CX w) fa fd x (sp w))
    (want : ∀ (w : World) (H : Hp) (a : Addr) (ns : List Int), ns.length ≤ n → Only H → SqL (K w.params) H a (ns.map V.int) → sp w [.ref a] H (fun v _ => v = .bl true) fun _ _ _ => False)
    (noexc : ∀ (w : World) (H : Hp) (s : Shared) (e : Value) (s' : Shared), CX w [] H s (fun _ _ _ => False) e s' → False) :
    PySem.W.WalkO q loose XP YP l.row.toRowW d [] (fun f vs => PySem.call f vs) := by
  refine Att.attach_call most plain fun w s₀ s₁ mg mb fa o pm cd doc a vs ns G Y _ _ _ hmg script vals few gens => ?_
  have inK := hY w _ Y
  obtain ⟨fd, bd, F⟩ := F w mg fa _ inK G.T.g hmg
  have rv := vals_ints vals
  have short := Nat.le_trans few line
  have core := fun H => top_core (H := H) (ns := ns) inK G.T.g G.T.b G.T.builtins G.T.nolimit gens script F (bd s₁)
  cases own : (K w.params).lookup a with
  | some o =>
    have same := inK a o own
    rw [script] at same
    cases same
    have known : SqL (K w.params) (fun _ => none) a (ns.map V.int) := .inr ⟨_, vs.toArray, _, own, rfl, rfl, rfl, by rw [List.size_toArray, vals.length]; exact short, by simpa using rv⟩
    exact core (fun _ => none) (want w _ a ns few (fun _ => .inl rfl) known) (noexc w _ s₁) (fun _ => .inl rfl) (fun b u z => nomatch z) (fun _ _ => rfl) (.inl rfl)
  | none =>
    let H : Hp := fun b => if b = a then some (.frz { cls := .type "list", data := .seq vs.toArray } (.lst (ns.map V.int))) else none
    have at_a : H a = some (.frz { cls := .type "list", data := .seq vs.toArray } (.lst (ns.map V.int))) := if_pos rfl
    have off : ∀ b, b ≠ a → H b = none := fun b z => if_neg z
    have only : Only H := fun b => (Decidable.em (b = a)).elim (fun z => .inr ⟨{ cls := .type "list", data := .seq vs.toArray }, ns.map V.int, z ▸ at_a⟩) fun z => .inl (off b z)
    have ok : HOk l.prog w H s₁.heap := fun b u e => by
      by_cases z : b = a
      · subst z
        rw [at_a] at e
        cases e
        exact ⟨script, by rw [List.length_map]; exact short, vs, _, rv, script⟩
      · rw [off b z] at e
        cases e
    exact core H (want w H a ns few only (.inl (.inr ⟨_, at_a⟩))) (noexc w H s₁) only ok off (.inr own)
end Zh

/-! Zh7: sorted over data that stand in a tuple. -/
namespace Zh
open PySem PySem.Spec PyProof.Rows L2
section
variable {prog : Program} {w : World} {A : Around} {E : Value → Shared → Prop} {s : Shared}
theorem collect_tup {l : Addr} {vs : List Value} {Q : List Value → Shared → Prop} (hl : s.heap.IsTuple l vs.toArray)
    (h : Q vs { s with heap := (s.heap.push (seqObj "list" #[] 0)).update s.heap.objs.size (Obj.mapSeq (· ++ vs.toArray)) }) (hsz : vs.length ≤ sizeLine) :
    wpAny (model prog w) A (collect (.ref l)) Q E s := by
  obtain ⟨o, ho, hc, n, hd⟩ := id hl
  unfold collect
  refine wpAny_bind (wpAny_runValue (codeAny_builtin entry_proto_collect' ?_))
  show wpAny _ _ (do again (.builtin "list.__iadd__" ⟨[← newList [], .ref l], []⟩)) _ _ s
  refine wpAny_bind (wpAny_newList (wpAny_pure ⟨Code.quiet_builtin _ (by decide +kernel), codeAny_builtin entry_list_iadd' ?_⟩))
  show wpAny _ _ (Builtin.List.listExtendWith (.ref s.heap.objs.size) (.ref l) (.ref s.heap.objs.size)) _ _ { s with heap := s.heap.push (seqObj "list" #[] 0) }
  unfold Builtin.List.listExtendWith
  have ho' : (s.heap.push (seqObj "list" #[] 0)).get? l = some o := Heap.get?_push_of_some _ ho
  refine wpAny_bind (wpAny_typeOf (T := "tuple") ⟨o, ho', hc⟩ ?_)
  have ht : (Value.type "tuple" == Value.type "tuple") = true := by rfl
  rw [if_pos (by rw [ht]; simp)]
  refine wpAny_bind (listItems_at ho' hd ?_)
  refine wpAny_bind (listItems_at (xs := #[]) (n := 0) (Heap.get?_push_size _ rfl) rfl ?_)
  rw [if_neg (by simp)]
  refine wpAny_bind (listUpdate_at (xs := #[]) (n := 0) (Heap.get?_push_size _ rfl) rfl ?_ (Nat.zero_le _) (by show (#[] ++ vs.toArray).size ≤ sizeLine + 1; simp only [Array.size_append, List.size_toArray, List.length_nil]; omega))
  refine wpAny_pure ?_
  show wpAny (model prog w) A (do
      let o ← load s.heap.objs.size
      match o.data with
      | .seq xs _ => pure xs.toList
      | _ => unsupported "internal:collect") Q E { s with heap := (s.heap.push (seqObj "list" #[] 0)).update s.heap.objs.size (Obj.mapSeq (· ++ vs.toArray)) }
  refine wpAny_bind (wpAny_load (get?_update_seq (Heap.get?_push_size _ rfl) _) ?_)
  show wpAny _ _ (pure ((#[] : Array Value) ++ vs.toArray).toList) Q E _
  rw [show ((#[] : Array Value) ++ vs.toArray).toList = vs by simp]
  exact wpAny_pure h
open PySem.W PySem.Calls in
theorem sorted_of_tup {l : Addr} {vs : List Value} {kw : List (Str × Value)} {Q : Value → Shared → Prop} (hl : s.heap.IsTuple l vs.toArray) (hL : vs.length ≤ sizeLine) (ha1 : argsOk "sorted" ⟨[.ref l], kw⟩) (ha2 : ∀ x, argsOk "list.sort" ⟨[.ref x], kw⟩)
    (body : ∀ E' : Value → Shared → Prop, wpAny (model prog w) A.in1.in1 (Builtin.«list.sort» ⟨[.ref (s.heap.objs.size + 1)], kw⟩) (fun f s' => f = .done (.ret .none) ∧ Q (.ref (s.heap.objs.size + 1)) s') E' { s with heap := copyHeap s.heap vs }) :
    wpAny (model prog w) A (call (.builtin "sorted") [.ref l] kw) Q E s := by
  refine call_function_entry_kw kind_sorted plain_sorted entry_sorted ha1 ?_
  unfold Builtin.«sorted»
  refine wpAny_bind (m := checkCount "sorted" 1 1 _) (wpAny_pure ?_)
  refine wpAny_bind (collect_tup hl ?_ hL)
  refine wpAny_bind (wpAny_newList ?_ hL)
  have hsz : ((s.heap.push (seqObj "list" #[] 0)).update s.heap.objs.size (Obj.mapSeq (· ++ vs.toArray))).objs.size = s.heap.objs.size + 1 := by
    rw [Heap.size_update, size_push']
  show wpAny _ _ _ _ _ { s with heap := copyHeap s.heap vs }
  rw [hsz]
  refine wpAny_bind (wpAny_holding (wpAny_call_entry_kw slot_list_sort ⟨_, copyHeap_at s.heap vs, rfl⟩ entry_list_sort ?body (ha2 _)))
  case body =>
    show wpAny (model prog w) A.in1.in1 (Builtin.«list.sort» ⟨[.ref (s.heap.objs.size + 1)], kw⟩) _ _ _
    refine wpAny_mono (body _) (fun f s' hf => ?_) fun _ _ e => e
    obtain ⟨rfl, hq⟩ := hf
    exact ⟨_, rfl, wpAny_pure ⟨_, rfl, hq⟩⟩
open PySem.W (EachIs AllAlike Sortable dataLe) in
theorem sorted_data_tup {β : Type} {vs : List Value} {bs : List β} {enc : β → PyData} {R : Value → β → Prop} {l : Addr} {Q : Value → Shared → Prop} (hl : s.heap.IsTuple l vs.toArray) (e : EachIs R vs bs) (er : EachIs (fun v b => ∃ as, Reads s.heap v (enc b) as) vs bs) (hal : AllAlike (bs.map enc)) (hk : Sortable (bs.map enc)) (hL : bs.length ≤ sizeLine)
    (hu : ∀ b, b ∈ bs → A.units + 2 + (enc b).depth < cLine) (h : ∀ out, out.length = bs.length → EachIs R out (bs.mergeSort (dataLe false enc)) → Q (.ref (s.heap.objs.size + 1)) { s with heap := sortedAll s.heap vs (List.toArray out) }) :
    wpAny (model prog w) A (call (.builtin "sorted") [.ref l]) Q E s := by
  have er' : EachIs (fun v b => ∃ as, Reads (PySem.W.sortingHeap (PySem.W.copyHeap s.heap vs) (s.heap.objs.size + 1) vs) v (enc b) as) vs bs := er.mono fun _ _ ⟨as, r⟩ => ⟨as, PyProof.Rows.Reads.keeps (fun _ _ => PySem.W.sorting_copy_old) r⟩
  have hL' : vs.length ≤ sizeLine := by rw [e.length]; exact hL
  exact sorted_of_tup hl hL' (args_sorted1 _) (fun _ => args_list_sort _) fun _ => PySem.W.list_sort_vals (s := { s with heap := PySem.W.copyHeap s.heap vs }) (PySem.W.copyHeap_at s.heap vs)
    (PySem.W.SortsAt.data (s := { s with heap := PySem.W.sortingHeap (PySem.W.copyHeap s.heap vs) (s.heap.objs.size + 1) vs }) (PySem.W.each_map (R := fun v d => ∃ as, Reads (PySem.W.sortingHeap (PySem.W.copyHeap s.heap vs) (s.heap.objs.size + 1) vs) v d as) enc er') hal hk (PySem.W.bound_map hu)) hL'
    ⟨rfl, h _ (by rw [PySem.W.sortVals_length false rfl]; exact e.length) (PySem.W.sortVals_data false e er' hal)⟩
end
open PySem.W (AllAlike Sortable) in
def rSortedDA (K : PySem.W.Frag) : List V → Hp → VK → Prop := fun vs H Q => ∃ (a : Addr) (xs : List V) (ds : List PyData), vs = [V.ref a] ∧ (SqL K H a xs ∨ SqT K H a xs) ∧ DpAll K H xs ds ∧ AllAlike ds ∧ Sortable ds ∧ (∀ d ∈ ds, d.depth ≤ 60) ∧
  ∀ p, H p = none → Q (.ref p) (upd H p (.lst (sortV (xs.zip ds))))
theorem cr_sortedDA {X : Cx} (hu : X.A.units + 65 < cLine) : CallR X (.builtin "sorted") (rSortedDA X.K) := by
  intro pins s σ H vs us Q I r h
  obtain ⟨a, xs, ds, rfl, hs | hs, hd, al, so, dp, q⟩ := h
  · exact cr_sortedD hu pins s σ H _ us Q I r ⟨a, xs, ds, rfl, hs, hd, al, so, dp, q⟩
  obtain ⟨its, rv, hl, hz⟩ := I.tuple hs
  rw [Vals.ref1 r]
  have hxd := dpAll_len hd
  have hlen : (sortV (xs.zip ds)).length = xs.length := by
    unfold sortV
    rw [List.length_map, List.length_mergeSort, List.length_zip, ← hxd, Nat.min_self]
  refine sorted_data_tup (vs := its) (β := V × PyData) (R := fun u p => RelV p.1 u) (enc := fun p => p.2) (bs := xs.zip ds) (show s.heap.IsTuple a its.toArray from hl) (each_vals rv hxd) (each_reads I rv hd) (by rw [zip_snd hxd]; exact al) (by rw [zip_snd hxd]; exact so) (by rw [List.length_zip, ← hxd, Nat.min_self]; exact hz)
    (fun b hb => ?_) fun out ho eo => ?_
  · have := dp b.2 (List.of_mem_zip (show (b.1, b.2) ∈ xs.zip ds from hb)).2
    omega
  · obtain ⟨ep, he'⟩ := PyProof.Rows.sortedAll_at s.heap its out.toArray
    exact ⟨.ref _, upd H (s.heap.objs.size + 1) (.lst (sortV (xs.zip ds))), I.laid (t' := s.toks) (fun _ _ => PyProof.Rows.sortedAll_old) (Nat.le_succ _) ⟨by rw [hlen]; exact hz, out, ep, vals_each eo, he'⟩, rfl, q _ (I.hok.fresh (Nat.le_succ _))⟩

/-! ### tuples known whole: +, slices -/
section
variable {X : Cx}
def rCatW (K : PySem.W.Frag) : R2 := fun x y H Q => ∃ a b xs ys, x = .ref a ∧ y = .ref b ∧ SqT K H a xs ∧ SqT K H b ys ∧ xs.length + ys.length ≤ sizeLine ∧
  (xs = [] → Q (.ref b) H) ∧ (xs ≠ [] → ys = [] → Q (.ref a) H) ∧ (xs ≠ [] → ys ≠ [] → ∀ p o, o.dict = none → H p = none → Q (.ref p) (upd H p (.frz o (.tup (xs ++ ys)))))
theorem op_catW : OpR X (binaryOp .Add) (rCatW X.K) := by
  intro pins s σ H x y v u Q I rx ry h
  obtain ⟨a, b, xs, ys, rfl, rfl, ha, hb, hz, q0, q1, q2⟩ := h
  by_cases hx : xs = []
  · exact op_catA pins s σ H _ _ v u Q I rx ry ⟨a, b, xs, ys, rfl, rfl, ha, hb, hz, q0, q1, fun z => absurd hx z⟩
  by_cases hy : ys = []
  · exact op_catA pins s σ H _ _ v u Q I rx ry ⟨a, b, xs, ys, rfl, rfl, ha, hb, hz, q0, q1, fun _ z => absurd hy z⟩
  cases rx
  cases ry
  obtain ⟨its, r1, p1, _⟩ := I.tuple ha
  obtain ⟨its2, r2, p2, _⟩ := I.tuple hb
  refine HT.cat_tup p1 p2 (fun z => hx (r1.nil_iff.mp z)) (fun z => ⟨.ref a, H, I, rfl, q1 hx (r2.nil_iff.mp z)⟩) (fun z => ?_) (by rw [← r1.length, ← r2.length]; exact hz)
  refine ⟨.ref s.heap.objs.size, _, I.laid (t' := s.toks) (o := .frz (seqObj "tuple" (its ++ its2).toArray 0) (.tup (xs ++ ys))) (fun b ob q => Heap.get?_push_of_some _ q) (Nat.le_refl _) ?_, rfl, q2 hx hy _ _ rfl (I.hok.fresh (Nat.le_refl _))⟩
  exact ⟨Heap.get?_push_size _ rfl, by rw [List.length_append]; exact hz, _, r1.append r2, IsTup.new _ _⟩
def rSlW (K : PySem.W.Frag) : V → Option Int → Option Int → Hp → VK → Prop := fun x lo hi H Q => ∃ a xs, x = .ref a ∧ SqT K H a xs ∧
  (HT.sIx xs.length 0 lo = 0 ∧ HT.sIx xs.length xs.length hi = xs.length → Q (.ref a) H) ∧ (¬ (HT.sIx xs.length 0 lo = 0 ∧ HT.sIx xs.length xs.length hi = xs.length) → ∀ p o, o.dict = none → H p = none → Q (.ref p) (upd H p (.frz o (.tup (cutV xs lo hi)))))
theorem sl_tupW : SlR X (rSlW X.K) := by
  intro pins s σ H x v vl vu lo hi sl Q I rx hs pl pu h
  obtain ⟨a, xs, rfl, hx, q1, q2⟩ := h
  by_cases hw : HT.sIx xs.length 0 lo = 0 ∧ HT.sIx xs.length xs.length hi = xs.length
  · exact sl_tupA pins s σ H _ v vl vu lo hi sl Q I rx hs pl pu ⟨a, xs, rfl, hx, q1, fun z => absurd hw z⟩
  cases rx
  obtain ⟨its, r, ht, hz⟩ := I.tuple hx
  have hlen : its.toArray.size = xs.length := by rw [List.size_toArray]; exact r.length.symm
  refine ⟨"tuple", _, PyProof.Rows.slot_tuple_getitem.lookup, ht.typeIs, ?_⟩
  refine HT.getItem_tuple_cut ht hs pl pu (by rw [hlen]; exact hw) ?_ (by rw [hlen]; exact hz)
  rw [hlen]
  refine ⟨.ref s.heap.objs.size, _, I.laid (t' := s.toks) (o := .frz { cls := .type "tuple", data := .seq ((its.toArray.toList.drop (HT.sIx xs.length 0 lo)).take (HT.sIx xs.length xs.length hi - HT.sIx xs.length 0 lo)).toArray } (.tup (cutV xs lo hi))) (fun b ob q => Heap.get?_push_of_some _ q) (Nat.le_refl _) ?_, rfl, q2 hw _ _ rfl (I.hok.fresh (Nat.le_refl _))⟩
  exact ⟨Heap.get?_push_size _ rfl, Nat.le_trans (cutV_length xs lo hi) hz, _, (r.drop (HT.sIx xs.length 0 lo)).take (HT.sIx xs.length xs.length hi - HT.sIx xs.length 0 lo), IsTup.new _ _⟩
end
end Zh

/-! Zh8: x[::-1] of a list or a tuple. -/
namespace Zh
open PySem PySem.Spec PyProof.Rows L2
section
variable {prog : Program} {w : World} {A : Around} {E : Value → Shared → Prop} {s : Shared}
theorem places_rev (n : Nat) : Builtin.Slice.slicePlaces ((n : Int) - 1) (-1) (-1) = n := by
  unfold Builtin.Slice.slicePlaces
  rw [if_neg (by decide), show (- -1 : Int) = 1 by decide, Int.ediv_one]
  split <;> omega
theorem slPart {v : Value} {o : Option Int} {Q : Option Int → Shared → Prop} (p : IsPart v o) (h : Q o s) : wpAny (model prog w) A (Builtin.Slice.slicePartIndex v) Q E s := by
  cases p with
  | none => exact slicePart_none h
  | int i t => exact slicePart_int h
theorem sliceApplied_rev {sl : Addr} {vl vu vs : Value} {n : Nat} {Q : Int × Int × Nat → Shared → Prop} (hs : s.heap.IsSliceOf sl vl vu vs) (pl : IsPart vl none) (pu : IsPart vu none) (ps : IsPart vs (some (-1)))
    (h : Q ((n : Int) - 1, -1, n) s) : wpAny (model prog w) A (Builtin.Slice.sliceApplied (.ref sl) (pure (n : Int))) Q E s := by
  obtain ⟨os, hos, hcs, hds⟩ := id hs
  unfold Builtin.Slice.sliceApplied Builtin.Slice.sliceFields
  refine wpAny_bind (wpAny_bind (wpAny_field hos hds (x := vl) rfl (wpAny_bind (wpAny_field hos hds (x := vu) rfl (wpAny_bind (wpAny_field hos hds (x := vs) rfl (wpAny_pure ?_)))))))
  refine wpAny_bind (slPart ps ?_)
  show wpAny _ _ (if ((-1 : Int) == 0) = true then _ else _) _ _ s
  rw [if_neg (by decide)]
  refine wpAny_bind (slPart pl (wpAny_bind (slPart pu (wpAny_bind (wpAny_pure ?_)))))
  show wpAny _ _ (pure ((n : Int) - 1, (-1 : Int), Builtin.Slice.slicePlaces ((n : Int) - 1) (-1) (-1))) _ _ s
  rw [places_rev]
  exact wpAny_pure h
theorem fm_some {α β : Type} {f : α → Option β} {g : α → β} : ∀ {l : List α}, (∀ m ∈ l, f m = some (g m)) → l.filterMap f = l.map g
  | [], _ => rfl
  | a :: l, h => by
    rw [List.filterMap_cons, h a List.mem_cons_self, List.map_cons, fm_some fun m k => h m (List.mem_cons_of_mem _ k)]
theorem pick_rev (xs : Array Value) : ((List.range xs.size).filterMap fun (m : Nat) => xs[((xs.size : Int) - 1 + (m : Int) * -1).toNat]?).toArray = xs.toList.reverse.toArray := by
  have e : ∀ m ∈ List.range xs.size, xs[((xs.size : Int) - 1 + (m : Int) * -1).toNat]? = some (xs.toList.reverse.getD m .none) := fun m hm => by
    have hm := List.mem_range.mp hm
    have hl : xs.toList.length = xs.size := Array.length_toList
    have : ((xs.size : Int) - 1 + (m : Int) * -1).toNat = xs.size - 1 - m := by omega
    rw [this, List.getD_eq_getElem?_getD, List.getElem?_reverse (by omega), hl, ← Array.getElem?_toList, List.getElem?_eq_getElem (by omega)]; rfl
  rw [fm_some e]
  congr 1
  apply List.ext_getElem
  · simp
  · intro i h1 h2
    rw [List.getElem_map, List.getElem_range, List.getD_eq_getElem?_getD, List.getElem?_eq_getElem h2]; rfl
theorem getItem_tuple_rev {t sl : Addr} {items : Array Value} {vl vu vs : Value} {Q : Value → Shared → Prop} (ht : IsTup s.heap t items) (hs : s.heap.IsSliceOf sl vl vu vs) (pl : IsPart vl none) (pu : IsPart vu none) (ps : IsPart vs (some (-1)))
    (h : Q (.ref s.heap.objs.size) { s with heap := s.heap.push { cls := .type "tuple", data := .seq items.toList.reverse.toArray } })
    (hsz : items.size ≤ sizeLine) : wpAny (model prog w) A (getItem (.ref t) (.ref sl)) Q E s := by
  have htake : sizeOk (.seq items.toList.reverse.toArray) := by
    show items.toList.reverse.toArray.size ≤ sizeLine
    rw [List.size_toArray, List.length_reverse, Array.length_toList]
    exact hsz
  obtain ⟨os, hos, hcs, hds⟩ := id hs
  have hTs : s.TypeIs (.ref sl) "slice" := ⟨os, hos, hcs⟩
  unfold getItem
  try with_reducible refine wpAny_holding ?_
  first | refine wpAny_bind (wpAny_pure ?_) | skip
  refine wpAny_bind (wpAny_sequenceKey ht.typeIs (by decide) ?_)
  refine wpAny_bind (wpAny_callSpecial?_slot (name := Str.ofString "__getitem__") ht.typeIs PyProof.Rows.slot_tuple_getitem
    (wpAny_call_entry PyProof.Rows.slot_tuple_getitem ht.typeIs entry_tuple_getitem ?_ (args_tuple_getitem _ _)))
  show wpAny _ _ (Builtin.Tuple.tupleItemsOf (.ref t) >>= _) _ _ s
  refine wpAny_bind (tupleItemsOf_ ht ?_)
  refine wpAny_bind (wpAny_typeOf hTs ?_)
  rw [if_pos (by decide)]
  refine wpAny_bind (sliceApplied_rev hs pl pu ps ?_)
  show wpAny _ _ (if ((((items.size : Nat) : Int) - 1) == 0 && (-1 : Int) == 1 && items.size == items.size) = true then _ else _) _ _ s
  rw [if_neg (by rw [show ((-1 : Int) == 1) = false from rfl, Bool.and_false, Bool.false_and]; decide), pick_rev]
  first
    | exact wpAny_bind (m := Builtin.Tuple.tupleExact _) (wpAny_newObj_type (wpAny_pure ⟨_, rfl, wpAny_pure h⟩) htake)
    | exact wpAny_bind (m := Builtin.Tuple.tupleExact _) (wpAny_newObj_type (wpAny_bind (wpAny_pure (wpAny_pure ⟨_, rfl, wpAny_pure h⟩))) htake)
    | exact wpAny_bind (wpAny_bind (m := Builtin.Tuple.tupleExact _) (wpAny_newObj_type (wpAny_pure (wpAny_pure ⟨_, rfl, wpAny_pure h⟩)) htake))
    | exact wpAny_bind (wpAny_bind (m := Builtin.Tuple.tupleExact _) (wpAny_newObj_type (wpAny_pure ⟨_, rfl, wpAny_pure h⟩) htake))
end
section
variable {X : Cx}
def tRevA (K : PySem.W.Frag) (te : TE) : TE := fun σ H Q => te σ H fun x H1 => ∃ a xs, x = .ref a ∧ ((SqL K H1 a xs ∧ ∀ p, H1 p = none → Q (.ref p) (upd H1 p (.lst xs.reverse))) ∨ (SqT K H1 a xs ∧ ∀ p o, o.dict = none → H1 p = none → Q (.ref p) (upd H1 p (.frz o (.tup xs.reverse)))))
theorem pe_revA {e : Expr} {te : TE} {k : Nat} {p1 p2 p3 pos : Pos} (he : PE X e te) : PE X (.Subscript e (.Slice none none (some (.UnaryOp .USub (.Constant (.int 1) k p1) p2)) p3) pos) (tRevA X.K te) := by
  refine ⟨fun pins s σ H Q I h => ?_⟩
  refine Subscript_ (thn (he.run pins s σ H _ I h) fun v s1 ⟨x, H1, I1, r1, q1⟩ => ?_)
  obtain ⟨a, xs, ex, hx⟩ := q1
  subst ex
  cases r1
  have hst : PO X (some (.UnaryOp .USub (.Constant (.int 1) k p1) p2)) (tPart (tUn (rU fun i => .int (-i)) (tC (.int 1)))) := po_some (pe_un un_neg pe_int)
  refine wpAny_Slice (thn (po_none.run pins s1 σ H1 (fun o H2 => o = none ∧ H2 = H1) I1 ⟨rfl, rfl⟩) fun vl s2 ⟨l, H2, I2, pl, el, e2⟩ => ?_)
  subst el e2
  refine thn (po_none.run pins s2 σ H2 (fun o H3 => o = none ∧ H3 = H2) I2 ⟨rfl, rfl⟩) fun vu s3 ⟨u, H3, I3, pu, eu, e3⟩ => ?_
  subst eu e3
  refine thn (hst.run pins s3 σ H3 (fun o H4 => o = some (-1) ∧ H4 = H3) I3 ⟨1, rfl, -1, rfl, rfl, rfl⟩) fun vs s4 ⟨o, H4, I4, ps, eo, e4⟩ => ?_
  subst eo e4
  have I5 : Inv X pins σ H4 { s4 with heap := s4.heap.push { cls := .type "slice", data := .fields #[vl, vu, vs] } } := I4.kept (t' := s4.toks) fun b ob q => Heap.get?_push_of_some _ q
  show wpAny (model X.prog X.w) X.A (subscriptTail e (.Slice none none (some (.UnaryOp .USub (.Constant (.int 1) k p1) p2)) p3) (.ref a) (.ref s4.heap.objs.size)) (EP X pins σ Q) X.xe { s4 with heap := s4.heap.push { cls := .type "slice", data := .fields #[vl, vu, vs] } }
  rcases hx with ⟨hx, q⟩ | ⟨hx, q⟩
  · obtain ⟨its, r, ht, hz⟩ := I5.list hx
    have hlen := r.length
    refine tail_any (ops := [.ref a, .ref s4.heap.objs.size]) ht.isList.typeIs (PySem.slot_list_getitem.lookup) ?_ (by with_unfolding_all rfl)
    refine wpAny_getItem_list_slice ht.isList (Heap.IsSliceOf.new _ vl vu vs) pl pu ps (by decide) ?_ (by rw [List.size_toArray]; omega)
    rw [PySem.W.krv_pick]
    refine ⟨.ref _, _, I5.laid (t' := s4.toks) (o := .lst xs.reverse) (fun b ob q => Heap.get?_push_of_some _ q) (Nat.le_refl _) ?_, rfl, q _ (I5.hok.fresh (Nat.le_refl _))⟩
    exact ⟨by rw [List.length_reverse]; exact hz, _, 0, r.reverse, Heap.get?_push_size _ rfl⟩
  · obtain ⟨its, r, ht, hz⟩ := I5.tuple hx
    have hlen := r.length
    refine tail_any (ops := [.ref a, .ref s4.heap.objs.size]) ht.typeIs (PyProof.Rows.slot_tuple_getitem.lookup) ?_ (by with_unfolding_all rfl)
    refine getItem_tuple_rev ht (Heap.IsSliceOf.new _ vl vu vs) pl pu ps ?_ (by rw [List.size_toArray]; omega)
    refine ⟨.ref _, _, I5.laid (t' := s4.toks) (o := .frz { cls := .type "tuple", data := .seq its.toArray.toList.reverse.toArray } (.tup xs.reverse)) (fun b ob q => Heap.get?_push_of_some _ q) (Nat.le_refl _) ?_, rfl, q _ _ rfl (I5.hok.fresh (Nat.le_refl _))⟩
    exact ⟨Heap.get?_push_size _ rfl, by rw [List.length_reverse]; exact hz, _, r.reverse, IsTup.new _ _⟩
end
end Zh

set_option maxHeartbeats 4000000
/-! Zh9: isinstance of an exception that was kept, with a dict or without. -/
namespace Zh
open PySem PySem.Spec PySem.Calls PySem.W PyProof.Rows
section
variable {prog : Program} {w : World} {A : Around} {E : Value → Shared → Prop} {s : Shared} {K : Frag} {x D : Addr} {ox : Obj} {od : Option Obj}
/-- a name that the class answers by a getter of its own -/
theorem find_byClass {C : Addr} {name : Str} {a g : Value} (hc : (clsIn K C).isSome = true) (ha : findIn K (.ref C) name = some (some a)) (hg : specialIn K a "__get__" = some (some g)) (ht : takesIn K a = some true) : findObj K C od name = some (.bind g a) := by
  obtain ⟨cd, hc⟩ := Option.isSome_iff_exists.mp hc
  unfold findObj
  rw [hc, Option.bind_some, ha, Option.bind_some]
  simp [hg, ht]
theorem kin_classD {Q : Option Value → Shared → Prop} (T : L2.ExcC K D) (X : K.In s.heap) (I : InstAt s.heap x ox D od) (h : Q (some (.ref D)) { s with toks := s.toks + 1 }) : wpAny (model prog w) A (getAttr? (.ref x) "__class__") Q E s := by
  have hf : findObj K D od "__class__" = some (.bind (.builtin "getset_descriptor.__get__") (.builtin "object.__class__")) := find_byClass (by obtain ⟨cd, hc, _⟩ := any_some T.hd; rw [hc]; rfl) T.ha T.hn T.ht
  obtain ⟨hp, g, d, t, os⟩ := s
  have l0 := I.type (M := model prog w)
  have l1 := looks_findIn (M := model prog w) X T.hg
  have l2 := looks_findIn (M := model prog w) X T.hk
  have l3 := looks_find (M := model prog w) X I hf
  have sub : Looks (model prog w) hp (isInstance (.ref x) (.type "BaseException")) true := l0.andThen (looks_subIn X T.hs)
  have f1 : (Value.builtin "BaseException.__getattribute__" == Value.builtin "object.__getattribute__") = false := by decide +kernel
  have f2 : (onTheHeap (Value.ref D) && Value.builtin "BaseException.__getattribute__" == Value.builtin "object.__getattribute__") = false := by rw [f1]; rfl
  unfold getAttr? getAttrBy? getAttrBy
  refine wpAny_bind (wpAny_mkText (wpAny_bind (wpAny_attempt (wpAny_holding (wpAny_bind (l0.at (wpAny_bind (l1.at ?_))))))))
  show wpAny _ _ (if (onTheHeap (Value.ref D) && Value.builtin "BaseException.__getattribute__" == Value.builtin "object.__getattribute__") = true then _ else _) _ _ _
  rw [f2, if_neg Bool.false_ne_true]
  unfold getAttrByItsOwn hookBefore
  refine wpAny_bind ?_
  rw [if_pos (show onTheHeap (Value.ref D) = true from rfl)]
  refine l2.at (wpAny_bind (wpAny_attempt (wpAny_holding ?_)))
  unfold callGetattribute
  rw [show (false && onTheHeap (Value.builtin "BaseException.__getattribute__")) = false from rfl, if_neg Bool.false_ne_true]
  unfold boundAndCalled
  rw [PySem.F.excAttr_ValueError.ga.bind (.ref x)]
  refine wpAny_bind (wpAny_pure ?_)
  show wpAny _ _ (call (.builtin "BaseException.__getattribute__") [.ref x, .str "__class__" t]) _ _ _
  refine wpAny_call (codeAny_call_builtin PySem.F.excAttr_ValueError.ga.plain PySem.F.entry_bexc_ga ?_)
  refine @check_slot (model prog w) _ _ ⟨hp, g, d, t + 1, os⟩ "BaseException.__getattribute__" "BaseException" "__getattribute__" (.ref x) [.str "__class__" t] [] _ (by decide +kernel) (by decide +kernel) sub (PySem.F.args_bexc_ga (.ref x) (.str "__class__" t)) ?_
  unfold Builtin.«object.__getattribute__»
  refine wpAny_bind (wpAny_of_eq (a := ((Value.ref x : Value), [Value.str "__class__" t])) (by first | rfl | (simp only [slotArgs]; rfl)) ?_)
  refine wpAny_bind (wpAny_pure (wpAny_bind (l0.at (wpAny_bind (l3.at ?_)))))
  show wpAny _ _ (holding [Value.builtin "object.__class__"] (call (.builtin "getset_descriptor.__get__") [.builtin "object.__class__", .ref x, .ref D]) >>= ret) _ _ _
  refine wpAny_bind (wpAny_holding (wpAny_call (class_get (s := ⟨hp, g, d, t + 1, os⟩) (ox := ox) (od := od) X I T.hm ?_)))
  refine wpAny_pure ?_
  show wpAny _ _ (handedOut (.ref D)) _ _ _
  rw [handedOut_of (v := .ref D) rfl]
  first
    | exact wpAny_pure (wpAny_pure h)
    | exact wpAny_pure h
    | exact wpAny_pure (wpAny_bind (wpAny_pure (wpAny_pure h)))
theorem kitx_excD (T : L2.ExcC K D) : KitX K (.ref x) (.ref D) (fun h => InstAt h x ox D od) where
  ty := fun _ _ _ I => I.type
  it := (handS_kitx_exc (x := x) (ox := ox) T.hg T.hk T.hs T.hd T.ha T.hn T.ht T.hm).it |> fun f => by
    obtain ⟨cdD, hcD, _⟩ := any_some T.hd
    intro M h X _
    unfold clsIn at hcD
    split at hcD
    · rename_i c' d' cd' sl' ho
      intro A' Q' E' s' k q
      unfold isType loadHead
      exact wpAny_bind (wpAny_loadPart (k _ _ (X _ _ ho)) (wpAny_pure q))
    · cases hcD
  ne := (handS_kitx_exc (x := x) (ox := ox) T.hg T.hk T.hs T.hd T.ha T.hn T.ht T.hm).ne
  ca := fun X I k => kin_classD T X I k
end
end Zh
namespace Zh
open PySem PySem.Spec PyProof.Rows L2
/-- a class that isinstance may be asked of, as a value -/
theorem kit_val {K : PySem.W.Frag} {C : Addr} {cv : Value} {b : Bool} (h : PySem.W.kitOne K (.ref C) cv = some b) : ∃ v : V, RelV v cv ∧ ∀ u, RelV v u → u = cv := by
  cases cv with
  | ref a => exact ⟨.ref a, rfl, fun u q => q⟩
  | type n => exact ⟨.ty n, rfl, fun u q => q⟩
  | _ => exact absurd h (by
      unfold PySem.W.kitOne PySem.W.kitCls
      rw [if_neg (by rw [beq_iff_eq]; exact fun z => by cases z)]
      exact fun z => nomatch z)
/-- isinstance(e, c), e an exception that was kept -/
def rIsX (K : PySem.W.Frag) : List V → Hp → VK → Prop := fun xs H Q => ∃ (a C : Addr) (d : Option Addr) (c : V) (cv : Value) (b : Bool), xs = [.ref a, c] ∧ H a = some (KeptX (.ref C) d a) ∧ (d = none ∨ ∃ dd ps, d = some dd ∧ H dd = some (.xd ps)) ∧
  L2.ExcC K C ∧ (∀ u, RelV c u → u = cv) ∧ PySem.W.kitOne K (.ref C) cv = some b ∧ Q (.bl b) H
theorem call_isX {X : Cx} : CallR X (.builtin "isinstance") (rIsX X.K) := by
  intro pins s σ H xs us Q I r h
  obtain ⟨a, C, d, c, cv, b, rfl, ek, hd, T, hcv, e, q⟩ := h
  cases r with
  | cons rx rr =>
    cases rr with
    | cons rt rr =>
      cases rr
      cases rx
      have ec := hcv _ rt
      subst ec
      obtain ⟨⟨oe, ovs, ho, hz, hdt⟩, _, _⟩ := I.hok a _ ek
      have nc : PySem.W.notCls oe = true := by unfold PySem.W.notCls; rw [hdt] <;> rfl
      rcases hd with ed | ⟨dd, ps, ed, exd⟩
      · have J : PySem.W.InstAt s.heap a oe C none := ⟨ho, hz.1, nc, by rw [hz.2, ed]; trivial⟩
        exact PySem.W.kia_one (kitx_excD T) I.kIn J e (fun z => nomatch z) fun tk => ⟨.bl b, H, I.tok tk, rfl, q⟩
      · have hx : ObjOk X.prog X.w H s.heap dd (.xd ps) := I.hok dd _ exd
        obtain ⟨mA, hns, hr⟩ := hx
        obtain ⟨od, hod, hlk⟩ := lookIn_ns hns
        have J : PySem.W.InstAt s.heap a oe C (some od) := ⟨ho, hz.1, nc, by rw [hz.2, ed]; exact hod⟩
        exact PySem.W.kia_one (kitx_excD T) I.kIn J e (fun z => nomatch z) fun tk => ⟨.bl b, H, I.tok tk, rfl, q⟩
end Zh
namespace Zh
open PySem PySem.Spec PyProof.Rows L2
/-! ### how often it is in a list -/
def rCountD (K : PySem.W.Frag) : V → List V → Hp → VK → Prop := fun x xs H Q => ∃ (a : Addr) (y : V) (d : PyData) (ds : List PyData), x = V.ref a ∧ xs = [y] ∧ Dp K H (V.ref a) (.list ds) ∧ Dp K H y d ∧
  SeqAt.shaped (.list ds) = true ∧ SeqAt.shaped d = true ∧ Q (.int ((ds.countP fun z => PyData.eqv z d : Nat) : Int)) H
theorem mt_countD {X : Cx} (hu : X.A.units + 65 < cLine) : MtR X "list.count" (rCountD X.K) := by
  intro pins s σ H x xs v us Q I rx rxs h
  obtain ⟨a, y, d, ds, rfl, rfl, hl, hy, sl, sd, q⟩ := h
  cases rx
  cases rxs with
  | cons ry rt =>
    rename_i uy ut
    cases rt
    obtain ⟨bs, r1⟩ := Dp.reads I d y uy hy ry
    have hxs : PyData.canLayAll0 ds = true := SeqAt.canLay_of_shaped sl
    have hroom : X.A.units + 1 + min (PyData.depthAll ds) d.depth < cLine := room_in_shaped sd hu
    cases hl with
    | lst hs ha =>
      obtain ⟨its, rv, ⟨⟨cls, dd, data, sls⟩, n, ho, hc, hdn, hdt⟩, hlen⟩ := I.list hs
      simp only at hc hdt
      subst hc hdt
      obtain ⟨as, h4⟩ := Dp.readsAll I ds _ its ha rv
      have hmap : its.map (SeqAt.readOf s.heap) = ds := SeqAt.readsAll_map ds its as hxs h4
      refine call_meets PySem.F.slot_list_count ⟨_, ho, rfl⟩ PySem.F.entry_list_count (PySem.F.args_list_count_2 _ _)
        (SeqAt.list_countAt a its.toArray n dd sls uy (fun u => PyData.eqv (SeqAt.readOf s.heap u) d)) ⟨ho, SeqAt.items_eqAt (vs := its.toArray) (show ReadsAll s.heap its.toArray.toList ds as from h4) r1 hxs (SeqAt.canLay_of_shaped sd) hroom, ?_⟩
      refine ⟨.int ((ds.countP fun z => PyData.eqv z d : Nat) : Int), H, I.tok _, ⟨s.toks, ?_⟩, q⟩
      show Value.int ((its.toArray.toList.countP (fun u => PyData.eqv (SeqAt.readOf s.heap u) d) : Nat) : Int) s.toks = _
      rw [← hmap, List.countP_map]
      rfl
end Zh
namespace Zh
open PySem PySem.Spec PyProof.Rows L2
/-- isinstance(e, (c1, c2, ..)), e an exception that was kept -/
def rIsXs (K : PySem.W.Frag) : List V → Hp → VK → Prop := fun xs H Q => ∃ (a C : Addr) (d : Option Addr) (tp : Addr) (vs : List V) (cvs : List Value) (b : Bool), xs = [.ref a, .ref tp] ∧ H a = some (KeptX (.ref C) d a) ∧ (d = none ∨ ∃ dd ps, d = some dd ∧ H dd = some (.xd ps)) ∧
  L2.ExcC K C ∧ H tp = some (.tup vs) ∧ (∀ us, Vals vs us → us = cvs) ∧ PySem.W.kitAny K (.ref C) cvs = some b ∧ Q (.bl b) H
theorem call_isXs {X : Cx} : CallR X (.builtin "isinstance") (rIsXs X.K) := by
  intro pins s σ H xs us Q I r h
  obtain ⟨a, C, d, tp, vs, cvs, b, rfl, ek, hd, T, et, hcv, e, q⟩ := h
  cases r with
  | cons rx rr =>
    cases rr with
    | cons rt rr =>
      cases rr
      cases rx
      cases rt
      obtain ⟨_, its, rv, o, h1, h2, n, h3⟩ := (show ObjOk X.prog X.w H s.heap tp (.tup vs) from I.hok tp _ et)
      have e3 := hcv _ rv
      subst e3
      obtain ⟨oc, odd, dt, sl⟩ := o
      simp only at h2 h3
      subst h2 h3
      obtain ⟨⟨oe, ovs, ho, hz, hdt⟩, _, _⟩ := I.hok a _ ek
      have nc : PySem.W.notCls oe = true := by unfold PySem.W.notCls; rw [hdt] <;> rfl
      rcases hd with ed | ⟨dd, ps, ed, exd⟩
      · have J : PySem.W.InstAt s.heap a oe C none := ⟨ho, hz.1, nc, by rw [hz.2, ed]; trivial⟩
        exact PySem.W.kia_tup (kitx_excD T) I.kIn J h1 e (fun z => nomatch z) fun tk => ⟨.bl b, H, I.tok tk, rfl, q⟩
      · have hx : ObjOk X.prog X.w H s.heap dd (.xd ps) := I.hok dd _ exd
        obtain ⟨mA, hns, hr⟩ := hx
        obtain ⟨od, hod, hlk⟩ := lookIn_ns hns
        have J : PySem.W.InstAt s.heap a oe C (some od) := ⟨ho, hz.1, nc, by rw [hz.2, ed]; exact hod⟩
        exact PySem.W.kia_tup (kitx_excD T) I.kIn J h1 e (fun z => nomatch z) fun tk => ⟨.bl b, H, I.tok tk, rfl, q⟩
end Zh

/-! Zh10: dict(enumerate(x)) of a list or a tuple. -/
namespace Zh
open PySem PySem.Spec PyProof.Rows L2

section
variable {prog : Program} {w : World} {A : Around} {E : Value → Shared → Prop} {s : Shared}
/-- 'next' of an enumerate whose last pair is still there -/
theorem enum_heldD {e it T : Addr} {fp : List Addr} {n i : Nat} {P : Nat → Value → Prop} {St : Nat → Heap → Prop} {old : Value} {f : Bool} {oT : Obj} {Q : Value → Shared → Prop}
    (D : Draws prog w A it fp n P St) (he : IsEnumHeld s.heap e it i old T f) (hT : s.heap.get? T = some oT) (hTe : T ≠ e) (hTi : T ≠ it) (hst : St i s.heap) (hlt : i < n) (hne : e ≠ it) (hef : e ∉ fp)
    (hQ : ∀ x h' tk, P i x → IsEnumHeld h' e it ((i : Int) + 1) old T true → St (i + 1) h' → h'.get? s.heap.objs.size = some { cls := .type "tuple", data := .seq #[.int i tk, x] } →
      (∀ b o, b ≠ e → b ≠ it → s.heap.get? b = some o → h'.get? b = some o) → Q (.ref s.heap.objs.size) { s with heap := h', toks := tk + 1 }) :
    wpAny (model prog w) A (Builtin.«enumerate.__next__» ⟨[.ref e], []⟩) (fun fin s' => ∃ v, fin = .done (.ret v) ∧ Q v s') E s := by
  obtain ⟨hp, g, d, tk0, os⟩ := s
  show wpAny _ _ (field (.ref e) 2 >>= _) _ _ _
  refine wpAny_bind (wpAny_field he rfl (x := .ref it) rfl (wpAny_bind (D.item i _ _ _ hlt hst fun x h1 tk px st1 sb1 => ?_)))
  replace sb1 : Heap.SameBut it hp h1 := sb1
  have he1 : IsEnumHeld h1 e it i old T f := (sb1.2 e hne).trans he
  show wpAny _ _ (field (.ref e) 3 >>= _) _ _ ⟨h1, g, d, tk, os⟩
  refine wpAny_bind (wpAny_field he1 rfl (x := rawInt i) rfl ?_)
  show wpAny _ _ (field (.ref e) 4 >>= _) _ _ ⟨h1, g, d, tk, os⟩
  refine wpAny_bind (wpAny_field he1 rfl (x := .none) rfl ?_)
  show wpAny _ _ (mkInt i >>= _) _ _ ⟨h1, g, d, tk, os⟩
  refine wpAny_bind (wpAny_mkInt ?_)
  show wpAny _ _ (setField (.ref e) 3 (rawInt ((i : Int) + 1)) >>= _) _ _ ⟨h1, g, d, tk + 1, os⟩
  refine wpAny_bind (wpAny_setField_rec he1 (by simp) fun h2 he2 sb2 => ?_)
  replace sb2 : Heap.SameBut e h1 h2 := sb2
  replace he2 : IsEnumHeld h2 e it ((i : Int) + 1) old T f := he2
  show wpAny _ _ (setField (.ref e) 4 .none >>= _) _ _ ⟨h2, g, d, tk + 1, os⟩
  refine wpAny_bind (wpAny_setField_rec he2 (by simp) fun h3 he3 sb3 => ?_)
  replace sb3 : Heap.SameBut e h2 h3 := sb3
  replace he3 : IsEnumHeld h3 e it ((i : Int) + 1) old T f := he3
  show wpAny _ _ (newTuple [.int i tk, x] >>= _) _ _ ⟨h3, g, d, tk + 1, os⟩
  refine wpAny_bind (wpAny_newTuple ?_)
  have zs : h3.objs.size = hp.objs.size := by rw [sb3.1, sb2.1, sb1.1]
  have he4 : IsEnumHeld (h3.push { cls := .type "tuple", data := .seq #[.int i tk, x] }) e it ((i : Int) + 1) old T f := Heap.get?_push_of_some _ he3
  have ht4 : (h3.push { cls := .type "tuple", data := .seq #[.int i tk, x] }).get? hp.objs.size = some { cls := .type "tuple", data := .seq #[.int i tk, x] } := by rw [← zs]; exact Heap.get?_push_size _ rfl
  have hk4 : ∀ b o, b ≠ e → b ≠ it → hp.get? b = some o → (h3.push { cls := .type "tuple", data := .seq #[.int i tk, x] }).get? b = some o := fun b o nb ni q =>
    Heap.get?_push_of_some _ (sb3.extBut b o nb (sb2.extBut b o nb (sb1.extBut b o ni q)))
  have st4 : St (i + 1) (h3.push { cls := .type "tuple", data := .seq #[.int i tk, x] }) := D.frame _ _ _ st1 fun b hb o y => by
    have nb : b ≠ e := fun q => hef (q ▸ hb)
    exact Heap.get?_push_of_some _ (sb3.extBut b o nb (sb2.extBut b o nb y))
  have el : e < hp.objs.size := Heap.lt_size he
  generalize h3.push { cls := .type "tuple", data := .seq #[.int i tk, x] } = h4 at *
  show wpAny _ _ (Builtin.SmallTypes.ownedTupleIsFree (.ref e) >>= _) _ _ ⟨h4, g, d, tk + 1, os⟩
  rw [zs]
  refine wpAny_bind (wpAny_tupleHeld_enum (s := ⟨h4, g, d, tk + 1, os⟩) he4 (hk4 T oT hTe hTi hT) fun h5 he5 sb5 => ?_)
  replace sb5 : Heap.SameBut e h4 h5 := sb5
  simp only [Bool.false_eq_true, if_false]
  refine wpAny_pure ⟨_, rfl, hQ x h5 tk px he5 (D.frame _ _ _ st4 fun b hb o y => sb5.extBut b o (fun q => hef (q ▸ hb)) y) (sb5.extBut _ _ (Nat.ne_of_gt el) ht4) fun b o nb ni q => sb5.extBut b o nb (hk4 b o nb ni q)⟩
theorem next_heldD {e it T : Addr} {fp : List Addr} {n i : Nat} {P : Nat → Value → Prop} {St : Nat → Heap → Prop} {old : Value} {f : Bool} {oT : Obj} {Q : Option Value → Shared → Prop}
    (D : Draws prog w A.in1 it fp n P St) (he : IsEnumHeld s.heap e it i old T f) (hT : s.heap.get? T = some oT) (hTe : T ≠ e) (hTi : T ≠ it) (hst : St i s.heap) (hlt : i < n) (hne : e ≠ it) (hef : e ∉ fp)
    (hQ : ∀ x h' tk, P i x → IsEnumHeld h' e it ((i : Int) + 1) old T true → St (i + 1) h' → h'.get? s.heap.objs.size = some { cls := .type "tuple", data := .seq #[.int i tk, x] } →
      (∀ b o, b ≠ e → b ≠ it → s.heap.get? b = some o → h'.get? b = some o) → Q (some (.ref s.heap.objs.size)) { s with heap := h', toks := tk + 1 }) :
    wpAny (model prog w) A (pyNext (.ref e)) Q E s := by
  have hTy : s.TypeIs (.ref e) "enumerate" := ⟨_, he, rfl⟩
  unfold pyNext
  exact wpAny_bind (wpAny_attempt (wpAny_callSpecial?_slot (name := Str.ofString "__next__") hTy F.slot_enumerate_next
    (wpAny_call_entry F.slot_enumerate_next hTy F.entry_enumerate_next
      (enum_heldD D he hT hTe hTi hst hlt hne hef fun x h' tk a b c k q => wpAny_pure (hQ x h' tk a b c k q)) (F.args_enumerate_next_1 _))))
theorem end_heldD {e it T : Addr} {fp : List Addr} {n : Nat} {i : Int} {P : Nat → Value → Prop} {St : Nat → Heap → Prop} {old : Value} {f : Bool} {Q : Option Value → Shared → Prop}
    (D : Draws prog w A.in1 it fp n P St) (he : IsEnumHeld s.heap e it i old T f) (hst : St n s.heap)
    (hQ : ∀ h', Heap.ExtBut it s.heap h' → Q none { s with heap := h' }) : wpAny (model prog w) A (pyNext (.ref e)) Q E s := by
  have hTy : s.TypeIs (.ref e) "enumerate" := ⟨_, he, rfl⟩
  unfold pyNext
  refine wpAny_bind (wpAny_attempt (wpAny_callSpecial?_slot (name := Str.ofString "__next__") hTy F.slot_enumerate_next
    (wpAny_call_entry F.slot_enumerate_next hTy F.entry_enumerate_next ?_ (F.args_enumerate_next_1 _))))
  show wpAny _ _ (field (.ref e) 2 >>= _) _ _ _
  refine wpAny_bind (wpAny_field he rfl (x := .ref it) rfl (wpAny_bind (D.done _ _ _ hst fun h' x eb ⟨o, ho, hc⟩ => ?_)))
  exact wpAny_bind (wpAny_isInstance (T := "StopIteration") (b := true) ⟨o, ho, hc⟩ isSubtype_stop (wpAny_pure (hQ _ eb)))
end
theorem atB_obj {t : Bool} {h : Heap} {a : Addr} {its : Array Value} (x : atB t h a its) : ∃ o, h.get? a = some o := by
  cases t with
  | false => obtain ⟨o, q, _⟩ := x; exact ⟨o, q⟩
  | true => obtain ⟨o, q, _⟩ := x; exact ⟨o, q⟩
section
variable {prog : Program} {w : World}
theorem pairs_enumB (t : Bool) (e it l : Addr) (hei : e ≠ it) (hle : l ≠ e) (hli : l ≠ it) (items : Array Value) :
    PairArg prog w "enumerate" e [e, it, l] [e, it] items.size (fun i k v => (∃ u, k = .int i u) ∧ items[i]? = some v)
      (fun h => (∃ old, IsEnum h e it 0 old) ∧ itB t h it l 0 ∧ atB t h l items) where
  type := fun s ok => let ⟨⟨_, he⟩, _⟩ := ok; ⟨_, he, rfl⟩
  notDict := by decide
  keep := fun h h' ⟨⟨old, he⟩, hit, hl⟩ hk => ⟨⟨old, hk _ _ he⟩, itB_at hit fun o x => hk _ o x, atB_at hl fun o x => hk _ o x⟩
  there := fun h ⟨⟨old, he⟩, hit, hl⟩ b hb => by
    obtain ⟨o1, h1, _⟩ := itB_obj hit
    obtain ⟨o2, h2⟩ := atB_obj hl
    simp only [List.mem_cons, List.not_mem_nil, or_false] at hb
    rcases hb with rfl | rfl | rfl
    · exact ⟨_, he⟩
    · exact ⟨_, h1⟩
    · exact ⟨_, h2⟩
  sub := fun b hb => by simp at hb ⊢; rcases hb with rfl | rfl <;> simp
  noKeys := fun A s Q E hA ok h => let ⟨⟨_, he⟩, _⟩ := ok; getAttrOr_miss_enumerate he rfl rfl rfl enumerate_no_keys (by decide +kernel) hA h
  iter := fun A s d Q E hA ok hd hdf h => by
    obtain ⟨⟨old, he⟩, hit, hl⟩ := ok
    simp only [List.mem_cons, List.not_mem_nil, or_false, not_or] at hdf
    obtain ⟨de, dit, dl⟩ := hdf
    have Dr : Draws prog w A.in1 it [it, l] items.size (fun j v => items[j]? = some v) (fun j h => itB t h it l j ∧ atB t h l items) := draws_B (by rw [show A.in1.handled = A.handled from rfl]; exact hA) t it l hli items
    refine wpAny_pyIter_enum he (h e [e, it] (fun i h => (itB t h it l i ∧ atB t h l items) ∧ ((∃ old, IsEnum h e it i old) ∨ ∃ old T f oT, IsEnumHeld h e it i old T f ∧ h.get? T = some oT ∧ T ≠ e ∧ T ≠ it ∧ T ≠ d)) s.heap s.toks ?_
      ⟨⟨hit, hl⟩, .inl ⟨old, he⟩⟩ (fun _ _ e => e) fun b hb => .inl hb)
    have hef : e ∉ [it, l] := by simp [hei, Ne.symm hle]
    exact {
      off := fun hm => by
        simp only [List.mem_cons, List.not_mem_nil, or_false] at hm
        rcases hm with x | x
        · exact de x
        · exact dit x
      frame := fun i h1 h2 ⟨⟨hit, hl⟩, he⟩ hk => by
        refine ⟨⟨itB_at hit fun o x => hk _ o (Ne.symm dit) x, atB_at hl fun o x => hk _ o (Ne.symm dl) x⟩, ?_⟩
        rcases he with ⟨old, he⟩ | ⟨old, T, f, oT, he, hT, r1, r2, r3⟩
        · exact .inl ⟨old, hk _ _ (Ne.symm de) he⟩
        · exact .inr ⟨old, T, f, oT, hk _ _ (Ne.symm de) he, hk _ _ r3 hT, r1, r2, r3⟩
      item := fun i s1 Q1 E1 hi ⟨hst, he⟩ hds hQ => by
        have ec : ((i + 1 : Nat) : Int) = (i : Int) + 1 := by omega
        have nit : s1.heap.objs.size ≠ it := let ⟨_, x, _⟩ := itB_obj hst.1; Nat.ne_of_gt (Heap.lt_size x)
        rcases he with ⟨old, he⟩ | ⟨old, T, f, oT, he, hT, r1, r2, r3⟩
        · refine wpAny_pyNext_enum_itemD Dr he hst hi hei hef fun x h' tk px ho st' hT hsz hk => ?_
          exact hQ s1.heap.objs.size _ _ h' (tk + 1) ⟨⟨_, rfl⟩, px⟩ (.inl ⟨_, hT, rfl, _, rfl⟩)
            ⟨st', .inr ⟨_, s1.heap.objs.size, false, _, (by rw [ec]; exact ho), hT, Nat.ne_of_gt (Heap.lt_size he), nit, Nat.ne_of_gt hds⟩⟩
            fun b o hb x => hk b o (fun y => hb (by simp [y])) (fun y => hb (by simp [y])) x
        · refine next_heldD Dr he hT r1 r2 hst hi hei hef fun x h' tk px ho st' hT' hk => ?_
          exact hQ s1.heap.objs.size _ _ h' (tk + 1) ⟨⟨_, rfl⟩, px⟩ (.inl ⟨_, hT', rfl, _, rfl⟩)
            ⟨st', .inr ⟨old, T, true, oT, (by rw [ec]; exact ho), hk _ _ r1 r2 hT, r1, r2, r3⟩⟩
            fun b o hb x => hk b o (fun y => hb (by simp [y])) (fun y => hb (by simp [y])) x
      done := fun s1 Q1 E1 ⟨hst, he⟩ hQ => by
        rcases he with ⟨old, he⟩ | ⟨old, T, f, oT, he, hT, r1, r2, r3⟩
        · exact wpAny_pyNext_enum_endD Dr he hst fun h' hk => hQ h' s1.toks fun b o hb x => hk b o (fun y => hb (by simp [y])) x
        · exact end_heldD Dr he hst fun h' hk => hQ h' s1.toks fun b o hb x => hk b o (fun y => hb (by simp [y])) x }
end
def enumK : Nat → List V → List (Key × V)
  | _, [] => []
  | k, x :: r => (.inl (k : Int), x) :: enumK (k + 1) r
theorem enumK_len : ∀ (xs : List V) (k : Nat), (enumK k xs).length = xs.length
  | [], _ => rfl
  | x :: r, k => by show (enumK (k + 1) r).length + 1 = _; rw [enumK_len r, List.length_cons]
/-- the same of the things themselves -/
def enumR : Nat → List Value → List (Key × Value)
  | _, [] => []
  | k, x :: r => (.inl (k : Int), x) :: enumR (k + 1) r
theorem enumR_get : ∀ (xs : List Value) (k i : Nat), (enumR k xs)[i]? = (xs[i]?).map fun y => (.inl ((k + i : Nat) : Int), y)
  | [], k, i => by simp [enumR]
  | y :: r, k, 0 => by simp [enumR]
  | y :: r, k, i + 1 => by
    show (enumR (k + 1) r)[i]? = _
    rw [enumR_get r (k + 1) i, show k + 1 + i = k + (i + 1) by omega]
    rfl
theorem enumR_len : ∀ (xs : List Value) (k : Nat), (enumR k xs).length = xs.length
  | [], _ => rfl
  | x :: r, k => by show (enumR (k + 1) r).length + 1 = _; rw [enumR_len r, List.length_cons]
theorem enumKR : ∀ {xs : List V} {its : List Value} (k : Nat), Vals xs its → KV (enumK k xs) (enumR k its)
  | _, _, _, .nil => .nil
  | _, _, k, .cons a r => .cons ⟨rfl, a⟩ (enumKR (k + 1) r)
/-- dict(enumerate(x)) -/
theorem pe_dictEnum {X : Cx} {a : Expr} {ta : TE} {p p2 pos q : Pos} (hc : X.calm = true) (hg : Gl X "dict") (hm : X.mg "dict" = none) (hg2 : Gl X "enumerate") (hm2 : X.mg "enumerate" = none) (ha : PE X a ta) (hs : starEach [a] X.env = [(false, eval a X.env)]) :
    PE X (.Call (.Name "dict" p) [.Call (.Name "enumerate" p2) [a] [] q] [] pos) (fun σ H Q => ta σ H fun v H1 => ∃ t b xs, v = .ref b ∧ SqB t X.K H1 b xs ∧ ∀ d, H1 d = none → Q (.ref d) (upd H1 d (.dK (mergeK [] (enumK 0 xs))))) := by
  have bd : bootBuiltins "dict" = some (.type "dict") := by decide +kernel
  refine ⟨fun pins s σ H Q I h => ?_⟩
  refine Call_ (ld_blt I hg hm bd (PyProof.Rows.callWith_type1 (rest := []) ?_ rfl rfl))
  refine Calls.spliced_cons ?_
  refine Call_ (ld_blt I hg2 hm2 boot_enumerate (PyProof.Rows.callWith_type1 (thn ((pa_cons ha pa_nil hs).run q pins s σ H (fun vs H1 => match vs with | [v] => ∃ t b xs, v = V.ref b ∧ SqB t X.K H1 b xs ∧ ∀ d, H1 d = none → Q (.ref d) (upd H1 d (.dK (mergeK [] (enumK 0 xs)))) | _ => False) I h) fun us s1 ⟨vs, H1, I1, r1, qq⟩ => ?_) hs rfl))
  match vs, qq with
  | [v], ⟨t, b, xs, ev, hq, k⟩ => ?_
  subst ev
  rw [Vals.ref1 r1]
  obtain ⟨its, rv, pb, lb⟩ := sqB_at I1 hq
  refine enum1_begins (begins_B t b its.toArray) pb fun h' he hit hk => ?_
  refine Calls.spliced_nil ?_
  have I2 : Inv X pins σ H1 { s1 with heap := h' } := I1.kept (t' := s1.toks) hk
  have lb2 : b < s1.heap.objs.size := lb
  have ok : (∃ old, IsEnum h' (s1.heap.objs.size + 1) s1.heap.objs.size 0 old) ∧ itB t h' s1.heap.objs.size b 0 ∧ atB t h' b its.toArray := ⟨⟨_, he⟩, itB_new hit, atB_at pb fun o x => hk _ o x⟩
  have lz : its.toArray.size ≤ sizeLine := by
    cases t with
    | false =>
      obtain ⟨its2, rv2, p2, z⟩ := I1.list hq
      have := rv2.length
      have := rv.length
      rw [List.size_toArray]; omega
    | true =>
      obtain ⟨its2, rv2, p2, z⟩ := I1.tuple hq
      have := rv2.length
      have := rv.length
      rw [List.size_toArray]; omega
  refine PySem.call_dict_pairs (knd := mixKind X.prog X.w) (kvs := enumR 0 its) (pairs_enumB t (s1.heap.objs.size + 1) s1.heap.objs.size b (Nat.succ_ne_self _) (Nat.ne_of_lt (Nat.lt_succ_of_lt lb)) (Nat.ne_of_lt lb) its.toArray) (I2.ok.hd hc) ok ⟨by rw [enumR_len]; rfl, fun j kk v ⟨⟨u, e1⟩, e2⟩ => ?_⟩ lz fun h2 tk hd2 k2 => ?_
  · have e2 : its[j]? = some v := by simpa using e2
    refine ⟨.inl (j : Int), by rw [enumR_get, e2, Nat.zero_add]; rfl, ?_⟩
    subst e1
    show ((j : Int) == (j : Int)) = true
    exact beq_self_eq_true _
  · have kb : ∀ c o, s1.heap.get? c = some o → h2.get? c = some o := fun c o e => k2 c o (fun m => by
      have lc := Heap.lt_size e
      simp only [List.mem_cons, List.not_mem_nil, or_false] at m
      rcases m with m | m
      · rw [m] at lc; exact absurd lc (Nat.not_lt.mpr (Nat.le_succ _))
      · rw [m] at lc; exact Nat.lt_irrefl _ lc) (hk c o e)
    have ml := length_mergeK (enumK 0 xs) []
    rw [List.length_nil, enumK_len] at ml
    have rl := rv.length
    rw [List.size_toArray] at lz
    have hz : s1.heap.objs.size ≤ h'.objs.size := by
      have a : s1.heap.objs.size + 1 < h'.objs.size := Heap.lt_size he
      exact Nat.le_of_lt (Nat.lt_trans (Nat.lt_succ_self _) a)
    refine ⟨.ref h'.objs.size, _, I1.laid (o := .dK (mergeK [] (enumK 0 xs))) (t' := tk) kb hz ⟨by omega, beq_eq_false_iff_ne.mpr (Nat.ne_of_gt (Nat.lt_of_lt_of_le I1.big hz)), merged [] (enumR 0 its), KV.merge (enumKR 0 rv) .nil, hd2⟩, rfl, k _ (I1.hok.fresh hz)⟩
end Zh

/-! Zh11: x[::s] of a list, s told to be 1 or -1. -/
namespace Zh
open PySem PySem.Spec PyProof.Rows L2
section
variable {X : Cx}
theorem pick_one (its : Array Value) : slicePick its none none (some 1) = its := by
  show slicePick its none none none = its
  exact slicePick_all its
def tStp (K : PySem.W.Frag) (te ts : TE) : TE := fun σ H Q => te σ H fun x H1 => ts σ H1 fun y H2 => ∃ a xs i, x = .ref a ∧ y = .int i ∧ SqL K H2 a xs ∧
  ((i = 1 ∧ ∀ p, H2 p = none → Q (.ref p) (upd H2 p (.lst xs))) ∨ (i = -1 ∧ ∀ p, H2 p = none → Q (.ref p) (upd H2 p (.lst xs.reverse))))
theorem pe_stp {e c : Expr} {te ts : TE} {p3 pos : Pos} (he : PE X e te) (hc : PE X c ts) : PE X (.Subscript e (.Slice none none (some c) p3) pos) (tStp X.K te ts) := by
  refine ⟨fun pins s σ H Q I h => ?_⟩
  refine Subscript_ (thn (he.run pins s σ H _ I h) fun v s1 ⟨x, H1, I1, r1, q1⟩ => ?_)
  have hst : PO X (some c) (tPart ts) := po_some hc
  refine wpAny_Slice (thn (po_none.run pins s1 σ H1 (fun o H2 => o = none ∧ H2 = H1) I1 ⟨rfl, rfl⟩) fun vl s2 ⟨l, H2, I2, pl, el, e2⟩ => ?_)
  subst el e2
  refine thn (po_none.run pins s2 σ H2 (fun o H3 => o = none ∧ H3 = H2) I2 ⟨rfl, rfl⟩) fun vu s3 ⟨u, H3, I3, pu, eu, e3⟩ => ?_
  subst eu e3
  refine thn (hc.run pins s3 σ H3 _ I3 q1) fun vy s4 ⟨y, H4, I4, ry, q4⟩ => ?_
  obtain ⟨a, xs, i, ex, ey, hx, q⟩ := q4
  subst ex ey
  cases r1
  obtain ⟨t, rfl⟩ := ry
  have ps : IsPart (Value.int i t) (some i) := .int i t
  have I5 : Inv X pins σ H4 { s4 with heap := s4.heap.push { cls := .type "slice", data := .fields #[vl, vu, Value.int i t] } } := I4.kept (t' := s4.toks) fun b ob q => Heap.get?_push_of_some _ q
  show wpAny (model X.prog X.w) X.A (subscriptTail e (.Slice none none (some c) p3) (.ref a) (.ref s4.heap.objs.size)) (EP X pins σ Q) X.xe { s4 with heap := s4.heap.push { cls := .type "slice", data := .fields #[vl, vu, Value.int i t] } }
  obtain ⟨its, r, ht, hz⟩ := I5.list hx
  have hlen := r.length
  refine tail_any (ops := [.ref a, .ref s4.heap.objs.size]) ht.isList.typeIs (PySem.slot_list_getitem.lookup) ?_ (by with_unfolding_all rfl)
  rcases q with ⟨rfl, q⟩ | ⟨rfl, q⟩
  · refine wpAny_getItem_list_slice ht.isList (Heap.IsSliceOf.new _ vl vu _) pl pu ps (by decide) ?_ (by rw [List.size_toArray]; omega)
    rw [pick_one]
    refine ⟨.ref _, _, I5.laid (t' := s4.toks) (o := .lst xs) (fun b ob q => Heap.get?_push_of_some _ q) (Nat.le_refl _) ?_, rfl, q _ (I5.hok.fresh (Nat.le_refl _))⟩
    exact ⟨hz, _, 0, r, Heap.get?_push_size _ rfl⟩
  · refine wpAny_getItem_list_slice ht.isList (Heap.IsSliceOf.new _ vl vu _) pl pu ps (by decide) ?_ (by rw [List.size_toArray]; omega)
    rw [PySem.W.krv_pick]
    refine ⟨.ref _, _, I5.laid (t' := s4.toks) (o := .lst xs.reverse) (fun b ob q => Heap.get?_push_of_some _ q) (Nat.le_refl _) ?_, rfl, q _ (I5.hok.fresh (Nat.le_refl _))⟩
    exact ⟨by rw [List.length_reverse]; exact hz, _, 0, r.reverse, Heap.get?_push_size _ rfl⟩
end
end Zh

/-! Zh12: == and != of things of two kinds (a list, a tuple, a dict and a text), of any tuple and an empty one, of any list and an empty one; a whole tuple times a number. -/
namespace Zh
open PySem PySem.Spec PySem.SeqAt PyProof.Rows L2
section
variable {A : Around} {s : Shared}
theorem dict_eq_declines_str (l : Addr) (es : Array (Option DictEntry)) (ep : Nat) (b : Str) (u : Tok) (e0 : Array DictEntry) :
    Meets (Builtin.«dict.__eq__» ⟨[.ref l, .str b u], []⟩) (fun _ R s => s.heap.get? l = some { cls := .type "dict", dict := none, data := .dict e0 ep, slots := #[] } ∧ R (.ok (.ret .notImplemented)) s) :=
  .of_wp fun prog w A R s h => by obtain ⟨hp, g, d, tk, os⟩ := s; obtain ⟨hl, h⟩ := h; have f1 := F.sub_str_dict; wp_walk using wpAny_loadPart' hl, wpAny_load hl; exact ⟨_, rfl, h⟩
theorem dict_ne_declines_str (l : Addr) (ep : Nat) (b : Str) (u : Tok) (e0 : Array DictEntry) :
    Meets (Builtin.«dict.__ne__» ⟨[.ref l, .str b u], []⟩) (fun _ R s => s.heap.get? l = some { cls := .type "dict", dict := none, data := .dict e0 ep, slots := #[] } ∧ R (.ok (.ret .notImplemented)) s) :=
  .of_wp fun prog w A R s h => by obtain ⟨hp, g, d, tk, os⟩ := s; obtain ⟨hl, h⟩ := h; have f1 := F.sub_str_dict; wp_walk using wpAny_loadPart' hl, wpAny_load hl; exact ⟨_, rfl, h⟩
theorem str_eq_declines_dict (b : Str) (u : Tok) (l : Addr) (ep : Nat) (e0 : Array DictEntry) :
    Meets (Builtin.«str.__eq__» ⟨[.str b u, .ref l], []⟩) (fun _ R s => s.heap.get? l = some { cls := .type "dict", dict := none, data := .dict e0 ep, slots := #[] } ∧ R (.ok (.ret .notImplemented)) s) :=
  .of_wp fun prog w A R s h => by obtain ⟨hp, g, d, tk, os⟩ := s; obtain ⟨hl, h⟩ := h; wp_walk using wpAny_loadPart' hl, wpAny_load hl; exact ⟨_, rfl, h⟩
theorem str_ne_declines_dict (b : Str) (u : Tok) (l : Addr) (ep : Nat) (e0 : Array DictEntry) :
    Meets (Builtin.«str.__ne__» ⟨[.str b u, .ref l], []⟩) (fun _ R s => s.heap.get? l = some { cls := .type "dict", dict := none, data := .dict e0 ep, slots := #[] } ∧ R (.ok (.ret .notImplemented)) s) :=
  .of_wp fun prog w A R s h => by obtain ⟨hp, g, d, tk, os⟩ := s; obtain ⟨hl, h⟩ := h; wp_walk using wpAny_loadPart' hl, wpAny_load hl; exact ⟨_, rfl, h⟩
def DictAt (s : Shared) (l : Addr) : Prop := ∃ (ep : Nat) (e0 : Array DictEntry), s.heap.get? l = some { cls := .type "dict", dict := none, data := .dict e0 ep, slots := #[] }
theorem rcEq_dict_str {l : Addr} (b : Str) (u : Tok) (hl : DictAt s l) (hu : A.units < cLine) : SeqAt.RcAt A s (.ref l) (.str b u) false := fun prog w E Q h => by
  obtain ⟨ep, e0, ho⟩ := hl
  exact rc_eq_decline_or (k := false) ⟨_, ho, rfl⟩ (typeIs_str s b u) (by decide) F.sub_str_dict F.slot_dict_eq F.slot_str_eq_refl
    (fun _ hq => call_meets F.slot_dict_eq ⟨_, ho, rfl⟩ F.entry_dict_eq (F.args_dict_eq_2 _ _) (dict_eq_declines_str l #[] ep b u e0) ⟨ho, hq⟩)
    (fun _ hq => call_meets F.slot_str_eq_refl (typeIs_str s b u) F.entry_str_eq (F.args_str_eq_2 _ _) (str_eq_declines_dict b u l ep e0) ⟨ho, hq⟩)
    (fun _ hq => wpAny_of_eq (rfl : isSame (.ref l) (.str b u) = pure false) hq) (.inr hu) h
theorem rcNe_dict_str {l : Addr} (b : Str) (u : Tok) (hl : DictAt s l) (hu : A.units < cLine) : SeqAt.RcNeAt A s (.ref l) (.str b u) true := fun prog w E Q h => by
  obtain ⟨ep, e0, ho⟩ := hl
  exact rc_ne_decline_or (k := false) ⟨_, ho, rfl⟩ (typeIs_str s b u) (by decide) F.sub_str_dict F.slot_dict_ne F.slot_str_ne_refl
    (fun _ hq => call_meets F.slot_dict_ne ⟨_, ho, rfl⟩ F.entry_dict_ne (F.args_dict_ne_2 _ _) (dict_ne_declines_str l ep b u e0) ⟨ho, hq⟩)
    (fun _ hq => call_meets F.slot_str_ne_refl (typeIs_str s b u) F.entry_str_ne (F.args_str_ne_2 _ _) (str_ne_declines_dict b u l ep e0) ⟨ho, hq⟩)
    (fun _ hq => wpAny_of_eq (rfl : isSame (.ref l) (.str b u) = pure false) hq) (.inr hu) h
theorem rcEq_tup_nil {l m : Addr} {its : Array Value} (hl : s.heap.IsTuple l its) (hm : s.heap.IsTuple m #[]) (hu : A.units < cLine) : SeqAt.RcAt A s (.ref l) (.ref m) (its.size == 0) := by
  have := SeqAt.RcAt.tuples (A := A) (s := s) (e := fun _ => true) hl hm hu (fun j _ h2 => absurd h2 (Nat.not_lt_zero j))
  simpa using this
theorem rcNe_tup_nil {l m : Addr} {its : Array Value} (hl : s.heap.IsTuple l its) (hm : s.heap.IsTuple m #[]) (hu : A.units < cLine) : SeqAt.RcNeAt A s (.ref l) (.ref m) (!(its.size == 0)) := by
  have := SeqAt.RcNeAt.tuples (A := A) (s := s) (e := fun _ => true) hl hm hu (fun j _ h2 => absurd h2 (Nat.not_lt_zero j))
  simpa using this
theorem rcEq_lst_nil {l m : Addr} {its : Array Value} (hl : s.heap.IsList l its) (hm : s.heap.IsList m #[]) (hu : A.units < cLine) : SeqAt.RcAt A s (.ref l) (.ref m) (its.size == 0) := by
  by_cases c : its.size = 0
  · have := SeqAt.RcAt.lists (A := A) (s := s) (e := fun _ => true) hl hm c hu (fun j _ h2 => absurd h2 (Nat.not_lt_zero j))
    rw [c] at this ⊢
    exact this
  · have := SeqAt.RcAt.lists_lengths (A := A) (s := s) hl hm (by simpa using c) hu
    rw [show (its.size == 0) = false by simpa using c]
    exact this
theorem rcNe_lst_nil {l m : Addr} {its : Array Value} (hl : s.heap.IsList l its) (hm : s.heap.IsList m #[]) (hu : A.units < cLine) : SeqAt.RcNeAt A s (.ref l) (.ref m) (!(its.size == 0)) := by
  by_cases c : its.size = 0
  · have := SeqAt.RcNeAt.lists (A := A) (s := s) (e := fun _ => true) hl hm c hu (fun j _ h2 => absurd h2 (Nat.not_lt_zero j))
    rw [c] at this ⊢
    exact this
  · have := SeqAt.RcNeAt.lists_lengths (A := A) (s := s) hl hm (by simpa using c) hu
    rw [show (its.size == 0) = false by simpa using c]
    exact this
end
section
variable {X : Cx} {pins : List (Addr × Obj)} {σ : L2.St} {H : Hp} {s : Shared}
def Odd2 (K : PySem.W.Frag) (x y : V) (H : Hp) (b : Bool) : Prop :=
  (∃ l xs z, x = .ref l ∧ y = .str z ∧ (SqL K H l xs ∨ SqT K H l xs) ∧ b = false) ∨
  (∃ l z, x = .ref l ∧ y = .str z ∧ ((∃ kvs, H l = some (.dK kvs)) ∨ ∃ kvs, H l = some (.dT kvs)) ∧ b = false) ∨
  (∃ l m xs, x = .ref l ∧ y = .ref m ∧ SqT K H l xs ∧ SqT K H m [] ∧ b = xs.isEmpty) ∨
  ∃ l m xs, x = .ref l ∧ y = .ref m ∧ SqL K H l xs ∧ SqL K H m [] ∧ b = xs.isEmpty
theorem dict_at (I : Inv X pins σ H s) {l : Addr} (h : (∃ kvs, H l = some (.dK kvs)) ∨ ∃ kvs, H l = some (.dT kvs)) : DictAt s l := by
  rcases h with ⟨kvs, h⟩ | ⟨kvs, h⟩
  · obtain ⟨_, _, vs, _, o, es, ep, e, ⟨c1, c2, c3⟩, hd, _⟩ := (show ObjOk X.prog X.w H s.heap l (.dK kvs) from I.hok l _ h)
    obtain ⟨cls, dd, data, sl⟩ := o
    simp only at c1 c2 c3 hd
    subst c1 c2 c3 hd
    exact ⟨ep, es, e⟩
  · obtain ⟨_, _, xs, _, o, es, ep, e, ⟨c1, c2, c3⟩, hd, _⟩ := (show ObjOk X.prog X.w H s.heap l (.dT kvs) from I.hok l _ h)
    obtain ⟨cls, dd, data, sl⟩ := o
    simp only at c1 c2 c3 hd
    subst c1 c2 c3 hd
    exact ⟨ep, es, e⟩
theorem len_nil {xs : List V} {its : List Value} (r : Vals xs its) : (its.toArray.size == 0) = xs.isEmpty := by
  rw [List.size_toArray, ← r.length]
  cases xs <;> rfl
theorem odd_run (I : Inv X pins σ H s) (hu : X.A.units < cLine) {x y : V} {v u : Value} {b : Bool} (rx : RelV x v) (ry : RelV y u) (o : Odd2 X.K x y H b) : SeqAt.RcAt X.A s v u b ∧ SeqAt.RcNeAt X.A s v u (!b) := by
  rcases o with ⟨l, xs, z, rfl, rfl, h, rfl⟩ | ⟨l, z, rfl, rfl, h, rfl⟩ | ⟨l, m, xs, rfl, rfl, h1, h2, rfl⟩ | ⟨l, m, xs, rfl, rfl, h1, h2, rfl⟩
  · cases rx
    obtain ⟨t, rfl⟩ := ry
    rcases h with h | h
    · obtain ⟨its, r, p, _⟩ := I.list h
      exact ⟨.list_str z t p.isList hu, .list_str z t p.isList hu⟩
    · obtain ⟨its, r, p, _⟩ := I.tuple h
      exact ⟨.tuple_str z t p hu, .tuple_str z t p hu⟩
  · cases rx
    obtain ⟨t, rfl⟩ := ry
    exact ⟨rcEq_dict_str z t (dict_at I h) hu, rcNe_dict_str z t (dict_at I h) hu⟩
  · cases rx
    cases ry
    obtain ⟨its, r, p, _⟩ := I.tuple h1
    obtain ⟨its2, r2, p2, _⟩ := I.tuple h2
    cases r2
    rw [← len_nil r]
    exact ⟨rcEq_tup_nil p p2 hu, rcNe_tup_nil p p2 hu⟩
  · cases rx
    cases ry
    obtain ⟨its, r, p, _⟩ := I.list h1
    obtain ⟨its2, r2, p2, _⟩ := I.list h2
    cases r2
    rw [← len_nil r]
    exact ⟨rcEq_lst_nil p.isList p2.isList hu, rcNe_lst_nil p.isList p2.isList hu⟩
end
section
variable {X : Cx}
theorem op_eqX (hu : X.A.units < cLine) : OpR X (compareOp .Eq) (fun x y H Q => ∃ b, Odd2 X.K x y H b ∧ Q (.bl b) H) := by
  intro pins s σ H x y v u Q I rx ry h
  obtain ⟨b, o, q⟩ := h
  exact (odd_run I hu rx ry o).1 X.prog X.w _ _ ⟨.bl b, H, I, rfl, q⟩
theorem op_neX (hu : X.A.units < cLine) : OpR X (compareOp .NotEq) (fun x y H Q => ∃ b, Odd2 X.K x y H b ∧ Q (.bl (!b)) H) := by
  intro pins s σ H x y v u Q I rx ry h
  obtain ⟨b, o, q⟩ := h
  exact (odd_run I hu rx ry o).2 X.prog X.w _ _ ⟨.bl (!b), H, I, rfl, q⟩
/-- a tuple times one is itself -/
theorem tuple_mul1 (l : Addr) (items : Array Value) (n : Nat) (dd : Option Addr) (sl : Array (Option Value)) (x : Int) (u : Tok) (c0 : (decide (x < -(2 ^ 63)) || decide (x ≥ 2 ^ 63)) = false) (c1 : (items.isEmpty || x == 1) = true) :
    Meets (Builtin.«tuple.__mul__» ⟨[.ref l, .int x u], []⟩) (fun _ R s => s.heap.get? l = some { cls := .type "tuple", dict := dd, data := .seq items n, slots := sl } ∧ R (.ok (.ret (Value.ref l))) s) :=
  .of_wp fun prog w A R s h => by
    obtain ⟨hp, g, d, tk, os⟩ := s
    obtain ⟨hl, h⟩ := h
    have f1 := AutoSeq1.idx_int
    wp_walk using wpAny_loadPart' hl
    repeat (first
      | (refine wpAny_ite_false (decide_eq_false (by rw [c0]; exact Bool.false_ne_true)) ?_; wp_walk using wpAny_loadPart' hl)
      | (refine wpAny_ite_true (decide_eq_true c1) ?_; wp_walk using wpAny_loadPart' hl))
    exact ⟨_, rfl, h⟩
def rRepW (K : PySem.W.Frag) : R2 := fun x y H Q => ∃ l k xs, x = .ref l ∧ y = .int k ∧ SqT K H l xs ∧ xs ≠ [] ∧ 1 ≤ k ∧ k ≤ 1000 ∧ xs.length ≤ 1000 ∧ (k = 1 → Q (.ref l) H) ∧ ∀ p o, o.dict = none → H p = none → Q (.ref p) (upd H p (.frz o (.tup (List.replicate k.toNat xs).flatten)))
theorem op_repW : OpR X (binaryOp .Mult) (rRepW X.K) := by
  intro pins s σ H x y v u Q I rx ry h
  obtain ⟨l, k, xs, rfl, rfl, hT, hne, h1, h2, hz, q1, q⟩ := h
  cases rx
  obtain ⟨t, rfl⟩ := ry
  obtain ⟨its, r, ⟨⟨cls, dd, data, sl⟩, ho, hc, n, hd⟩, hs⟩ := I.tuple hT
  simp only at hc hd
  subst hc hd
  have hle : its.length = xs.length := r.length.symm
  have hn : its ≠ [] := fun e => hne (by
    rw [e] at hle
    exact List.eq_nil_of_length_eq_zero hle.symm)
  have hi : its.toArray.isEmpty = false := by
    cases its with
    | nil => exact absurd rfl hn
    | cons a b => rfl
  have hsz0 : its.toArray.size = xs.length := by rw [List.size_toArray, hle]
  have hm : ((its.toArray.size : Nat) : Int) * k ≤ 1000000 := by
    rw [hsz0]
    have a1 : ((xs.length : Nat) : Int) * k ≤ 1000 * k := Int.mul_le_mul_of_nonneg_right (by omega) (by omega)
    omega
  have flen : (List.replicate k.toNat its).flatten.length ≤ sizeLine := by
    rw [PyProof.Rows.lm_len_rep_flat, hle, sizeLine_eq]
    have a1 : k.toNat * xs.length ≤ 1000 * 1000 := Nat.mul_le_mul (by omega) hz
    omega
  have c0 : (decide (k < -(2 ^ 63)) || decide (k ≥ 2 ^ 63)) = false := by
    rw [decide_eq_false (by omega), decide_eq_false (by omega)] <;> rfl
  by_cases c : k = 1
  · have c1 : (its.toArray.isEmpty || k == 1) = true := by
      rw [hi, Bool.false_or, c]; rfl
    refine wpAny_binaryOp_repeat_ref (T := "tuple") (U := "int") (by decide) ⟨_, ho, rfl⟩ (fun s' => typeIs_int s' k t) noFill_tuple_mul F.fills_int_mul F.slot_int_rmul repeat_tuple F.slot_int_index.lookup
      (call_meets F.slot_int_rmul (typeIs_int s k t) F.entry_int_rmul (F.args_int_rmul_2 _ _) (int_rmul_tuple k t l its.toArray n dd sl)
        ⟨ho, rfl, ⟨_, ho, rfl⟩, call_meets F.slot_tuple_mul ⟨_, ho, rfl⟩ F.entry_tuple_mul (F.args_tuple_mul_2 _ _) (tuple_mul1 l its.toArray n dd sl k t c0 c1) ⟨ho, ?_⟩⟩)
    exact ⟨.ref l, H, I, rfl, q1 c⟩
  have c1 : (its.toArray.isEmpty || k == 1) = false := by
    rw [hi, Bool.false_or]
    exact beq_eq_false_iff_ne.mpr (by omega)
  have c2 : (decide (k ≤ 0) || its.toArray.isEmpty) = false := by
    rw [hi, Bool.or_false]
    exact decide_eq_false (by omega)
  have c4 : Builtin.Tuple.tupleTooMany (((its.toArray.size : Nat) : Int) * k) = false := by
    unfold Builtin.Tuple.tupleTooMany
    rw [sizeLine_eq]
    exact decide_eq_false (by omega)
  refine wpAny_binaryOp_repeat_ref (T := "tuple") (U := "int") (by decide) ⟨_, ho, rfl⟩ (fun s' => typeIs_int s' k t) noFill_tuple_mul F.fills_int_mul F.slot_int_rmul repeat_tuple F.slot_int_index.lookup
    (call_meets F.slot_int_rmul (typeIs_int s k t) F.entry_int_rmul (F.args_int_rmul_2 _ _) (int_rmul_tuple k t l its.toArray n dd sl)
      ⟨ho, rfl, ⟨_, ho, rfl⟩, call_meets F.slot_tuple_mul ⟨_, ho, rfl⟩ F.entry_tuple_mul (F.args_tuple_mul_2 _ _) (tuple_mulW l its.toArray n dd sl k t c0 c1 c2 (by omega) c4 (by rw [size_rep, List.size_toArray]; exact flen)) ⟨ho, ?_⟩⟩)
  rw [size_rep]
  refine ⟨.ref s.heap.objs.size, _, I.laid (t' := s.toks) (o := .frz (seqObj "tuple" (List.replicate k.toNat its).flatten.toArray 0) (.tup (List.replicate k.toNat xs).flatten)) (fun b ob q => Heap.get?_push_of_some _ q) (Nat.le_refl _) ?_, rfl, q _ _ rfl (I.hok.fresh (Nat.le_refl _))⟩
  exact ⟨Heap.get?_push_size _ rfl, by rw [PyProof.Rows.lm_len_rep_flat, sizeLine_eq]; have a1 : k.toNat * xs.length ≤ 1000 * 1000 := Nat.mul_le_mul (by omega) hz; omega, _, r.rep k.toNat, IsTup.new _ _⟩
end
end Zh

/-! Zh13: tuple(..) of a text: its signs. -/
namespace Zh
open PySem PySem.Spec PyProof.Rows L2
open AutoSeq1 (wpAny_loadPart')
theorem meets_tuple_new_str (x : Str) (t : Tok) (hn : x.cps.size ≤ sizeLine) : Meets (Builtin.«tuple.__new__» ⟨[.type "tuple", .str x t], []⟩)
    (fun A R s => A.handled = none ∧ ∀ (h' : Heap) (tk : Nat) (acc : Array Value), (∀ b o, s.heap.get? b = some o → h'.get? b = some o) → PySem.ItemsOf (SignAt x) acc x.cps.size → R (.ok (.ret (.ref h'.objs.size))) { s with heap := h'.push { cls := .type "tuple", data := .seq acc }, toks := tk }) := by
  intro prog w A R s h
  obtain ⟨hh, h⟩ := h
  obtain ⟨hp, g, d, tk, os⟩ := s
  have hsub := sub_tuple_self
  have hinit := init_tuple_lookup
  have hmh := madeHere_tuple
  have hh1 : A.in1.handled = none := hh
  wp_walk using wpAny_collect_str (A := A.in1) (hn := hn) hh1 x t
  rintro ⟨h', g', d', tk', os'⟩ acc hk eg ed eo it
  simp only at eg ed eo hk
  subst eg ed eo
  show wpAny _ _ (Builtin.Tuple.tupleExact acc.toList.toArray >>= fun v => ret v) _ _ _
  unfold Builtin.Tuple.tupleExact
  have e : acc.toList.toArray = acc := by simp
  refine wpAny_bind (wpAny_newObj_type ?_ (by show acc.toList.toArray.size ≤ sizeLine; rw [e, it.1]; exact hn))
  refine wpAny_pure ?_
  rw [e]
  exact h h' tk' acc hk it
section
variable {prog : Program} {w : World} {A : Around} {E : Value → Shared → Prop} {s : Shared}
theorem call_tuple_str {x : Str} {t : Tok} {Q : Value → Shared → Prop} (hh : A.handled = none) (hn : x.cps.size ≤ sizeLine)
    (h : ∀ (h' : Heap) (tk : Nat) (acc : Array Value), (∀ b o, s.heap.get? b = some o → h'.get? b = some o) → PySem.ItemsOf (SignAt x) acc x.cps.size → Q (.ref h'.objs.size) { s with heap := h'.push { cls := .type "tuple", data := .seq acc }, toks := tk }) :
    wpAny (model prog w) A (call (.type "tuple") [.str x t]) Q E s :=
  callType_new F.called_tuple (by decide) (F.typeCall_tuple_1 _) (F.newCall_tuple_1 _) (fun obj => F.args_object_init_2 obj _) F.entry_tuple_new
    (meets_tuple_new_str x t hn) ⟨hh, fun h' tk acc hk it => ⟨⟨_, Heap.get?_push_size _ rfl, rfl⟩, h h' tk acc hk it⟩⟩
end
def signV (z : Str) : List V := z.cps.toList.map fun c => V.str ⟨#[c]⟩
theorem vals_signs {z : Str} {acc : Array Value} (it : PySem.ItemsOf (SignAt z) acc z.cps.size) : Vals (signV z) acc.toList := by
  have len : (signV z).length = acc.toList.length := by
    unfold signV
    rw [List.length_map, Array.length_toList, Array.length_toList, it.1]
  have at' : ∀ j (h1 : j < (signV z).length) (h2 : j < acc.toList.length), RelV (signV z)[j] acc.toList[j] := fun j h1 h2 => by
    obtain ⟨c, u, e1, e2⟩ := it.2 j acc.toList[j] (by rw [← Array.getElem?_toList, List.getElem?_eq_getElem h2])
    rw [e2]
    have e3 : (signV z)[j]? = some (V.str ⟨#[c]⟩) := by
      unfold signV
      rw [List.getElem?_map, Array.getElem?_toList, e1]; rfl
    have : (signV z)[j] = V.str ⟨#[c]⟩ := (List.getElem?_eq_some_iff.mp e3).2
    rw [this]
    exact ⟨u, rfl⟩
  generalize signV z = a at *
  generalize acc.toList = b at *
  clear it
  induction a generalizing b with
  | nil =>
    cases b with
    | nil => exact .nil
    | cons _ _ => cases len
  | cons x a ih =>
    cases b with
    | nil => cases len
    | cons y b => exact .cons (at' 0 (Nat.zero_lt_succ _) (Nat.zero_lt_succ _)) (ih b (by simpa using len) fun j h1 h2 => at' (j + 1) (Nat.succ_lt_succ h1) (Nat.succ_lt_succ h2))
section
variable {X : Cx}
/-- tuple(..) of a list or of a text -/
theorem pe_tupleWS {a : Expr} {ta : TE} {p pos : Pos} (hc : X.calm = true) (hg : Gl X "tuple") (hm : X.mg "tuple" = none) (ha : PE X a ta) (na : starEach [a] X.env = (false, eval a X.env) :: starEach [] X.env) :
    PE X (.Call (.Name "tuple" p) [a] [] pos) (fun σ H Q => ta σ H fun x H1 => (∃ b xs, x = .ref b ∧ SqL X.K H1 b xs ∧ ∀ q o, o.dict = none → H1 q = none → Q (.ref q) (upd H1 q (.frz o (.tup xs)))) ∨
      ∃ z, x = .str z ∧ z.length ≤ sizeLine ∧ ∀ q o, o.dict = none → H1 q = none → Q (.ref q) (upd H1 q (.frz o (.tup (signV z))))) := by
  refine ⟨fun pins s σ H Q I h => Call_ (ld_blt I hg hm boot_tuple (PyProof.Rows.callWith_type1 (one_arg ha I h (fun v s2 x H2 I2 r q => ?_) na) na))⟩
  rcases q with ⟨b, xs, rfl, hs, q⟩ | ⟨z, rfl, hz, q⟩
  · obtain rfl : v = .ref b := r
    obtain ⟨its, rv, pl, hz⟩ := I2.list hs
    refine call_tuple_list pl.isList (fun h' hk => ?_) (by have := rv.length; rw [List.size_toArray]; omega)
    have J : Inv X pins σ H2 { s2 with heap := h' } := I2.kept (t' := s2.toks) hk
    refine ⟨.ref h'.objs.size, _, J.laid (h' := h'.push { cls := .type "tuple", data := .seq its.toArray }) (o := .frz { cls := .type "tuple", data := .seq its.toArray } (.tup xs)) (t' := s2.toks) (fun c o e => Heap.get?_push_of_some _ e) (Nat.le_refl _) ?_, rfl, q _ _ rfl (J.hok.fresh (Nat.le_refl _))⟩
    exact ⟨Heap.get?_push_size _ rfl, hz, its, rv, IsTup.new _ _⟩
  · obtain ⟨t, rfl⟩ := r
    have hz' : z.cps.size ≤ sizeLine := hz
    refine call_tuple_str (I2.ok.hd hc) hz' fun h' tk acc hk it => ?_
    have J : Inv X pins σ H2 { s2 with heap := h', toks := tk } := I2.kept (t' := tk) hk
    have rv := vals_signs it
    have ls : (signV z).length ≤ sizeLine := by unfold signV; rw [List.length_map, Array.length_toList]; exact hz'
    refine ⟨.ref h'.objs.size, _, J.laid (h' := h'.push { cls := .type "tuple", data := .seq acc }) (o := .frz { cls := .type "tuple", data := .seq acc } (.tup (signV z))) (t' := tk) (fun c o e => Heap.get?_push_of_some _ e) (Nat.le_refl _) ?_, rfl, q _ _ rfl (J.hok.fresh (Nat.le_refl _))⟩
    exact ⟨Heap.get?_push_size _ rfl, ls, acc.toList, rv, by have := IsTup.new h' acc; simpa using this⟩
end
end Zh

/-! Zh14: a walk over zip(a, b) whose pair is kept in one name (a, b lists). -/
namespace Zh
open PySem PySem.Spec PyProof.Rows L2
section
variable {prog : Program} {w : World} {A : Around} {E : Value → Shared → Prop} {s : Shared}
/-- a zip whose last pair is told by f0, and a mark f -/
abbrev ZipAt (h : Heap) (z TI TO : Addr) (f0 : Value) (f : Bool) : Prop :=
  h.get? z = some { cls := .type "zip", dict := none, data := .fields #[f0, .bool f, .bool false, .ref TI, .ref TO], slots := #[] }
/-- its last pair is free: none was told, or it is no more -/
def FreeF (h : Heap) (f0 : Value) : Prop := f0 = .none ∨ ∃ T : Addr, f0 = rawInt T ∧ h.get? T = none
theorem is_free {z TI TO : Addr} {f0 : Value} {f : Bool} {Q : Bool → Shared → Prop} (hz : ZipAt s.heap z TI TO f0 f) (fr : FreeF s.heap f0) (h : Q true s) : wpAny (model prog w) A (Builtin.SmallTypes.ownedTupleIsFree (.ref z)) Q E s := by
  unfold Builtin.SmallTypes.ownedTupleIsFree
  rcases fr with rfl | ⟨T, rfl, hT⟩
  · exact wpAny_bind (wpAny_field hz rfl (x := .none) rfl (wpAny_pure h))
  · refine wpAny_bind (wpAny_field hz rfl (x := rawInt T) rfl ?_)
    show wpAny _ _ (loadIfAlive ((T : Int).toNat) >>= _) _ _ _
    rw [Int.toNat_natCast]
    refine wpAny_bind ?_
    have h' : (fun (o : Option Obj) (s' : Shared) => wpAny (model prog w) A (if o.isNone = true then (pure true : Sem Bool) else (field (.ref z) 1 >>= fun x => if (x != Value.bool true) = true then setField (.ref z) 1 (.bool true) >>= fun _ => pure false else pure false)) Q E s') (s.heap.get? T) s := by
      rw [hT]
      exact wpAny_pure h
    exact fun _ _ _ => h'
/-- the next pair, the last one being free -/
theorem next_free {z TI TO i1 i2 l1 l2 : Addr} {k1 k2 : Nat} {xs ys : Array Value} {x y a b f0 : Value} {f : Bool} {Q : Value → Shared → Prop} (D : ZipApart z TI TO i1 i2 l1 l2)
    (hz : ZipAt s.heap z TI TO f0 f) (fr : FreeF s.heap f0) (hTI : IsPair s.heap TI (.ref i1) (.ref i2)) (hTO : IsPair s.heap TO a b)
    (h1 : s.heap.IsListIter i1 l1 k1) (h2 : s.heap.IsListIter i2 l2 k2) (hl1 : s.heap.IsList l1 xs) (hl2 : s.heap.IsList l2 ys) (hx : xs[k1]? = some x) (hy : ys[k2]? = some y)
    (hQ : ∀ h', ZipAt h' z TI TO (rawInt s.heap.objs.size) false → IsPair h' TO x y → h'.IsListIter i1 l1 (k1 + 1) → h'.IsListIter i2 l2 (k2 + 1) → IsPair h' s.heap.objs.size x y → h'.objs.size = s.heap.objs.size + 1 →
      (∀ c o, c ≠ z → c ≠ TO → c ≠ i1 → c ≠ i2 → s.heap.get? c = some o → h'.get? c = some o) → Q (.ref s.heap.objs.size) { s with heap := h' }) :
    wpAny (model prog w) A (Builtin.«zip.__next__» ⟨[.ref z], []⟩) (fun fin s' => ∃ v, fin = .done (.ret v) ∧ Q v s') E s := by
  show wpAny _ _ (field (.ref z) 2 >>= _) _ _ _
  refine wpAny_bind (wpAny_field hz rfl (x := .bool false) rfl ?_)
  show wpAny _ _ (field (.ref z) 3 >>= _) _ _ _
  refine wpAny_bind (wpAny_field hz rfl (x := .ref TI) rfl (wpAny_bind (wpAny_seqItems hTI rfl ?_)))
  show wpAny _ _ (Builtin.SmallTypes.ownedTupleIsFree (.ref z) >>= _) _ _ _
  refine wpAny_bind (is_free hz fr ?_)
  simp only [if_true]
  refine wpAny_bind (wpAny_rule (wpAny_bind (wpAny_field hz rfl (x := .ref TO) rfl (wpAny_bind (wpAny_setField_rec hz (by simp) fun g1 z1 b1 => ?_)))))
  replace z1 : ZipAt g1 z TI TO .ellipsis f := z1
  refine wpAny_bind ?_
  simp only [List.zipIdx_cons, List.zipIdx_nil, List.forIn_cons, List.forIn_nil]
  refine wpAny_bind (wpAny_bind (wpAny_onRaise ?_))
  show wpAny _ _ (Builtin.SmallTypes.nextOf (.ref i1) >>= _) _ _ _
  refine wpAny_bind (wpAny_nextOf_list_item (h1.extBut b1.extBut D.i1z) (hl1.extBut b1.extBut D.l1z) hx fun g2 i12 b2 => wpAny_pure ?_)
  have t2 : IsPair g2 TO a b := b2.extBut _ _ D.TOi1 (b1.extBut _ _ D.TOz hTO)
  refine wpAny_bind (wpAny_seqItems t2 rfl (wpAny_bind (wpAny_updateSeq_pair t2 fun g3 t3 b3 => ?_)))
  replace t3 : IsPair g3 TO x b := t3
  refine wpAny_bind (wpAny_letGo (wpAny_pure (wpAny_bind (wpAny_bind (wpAny_onRaise ?_)))))
  show wpAny _ _ (Builtin.SmallTypes.nextOf (.ref i2) >>= _) _ _ _
  refine wpAny_bind (wpAny_nextOf_list_item (((h2.extBut b1.extBut D.i2z).extBut b2.extBut D.i12.symm).extBut b3.extBut D.TOi2.symm)
    (((hl2.extBut b1.extBut D.l2z).extBut b2.extBut D.l2i1).extBut b3.extBut D.l2TO) hy fun g4 i24 b4 => wpAny_pure ?_)
  have t4 : IsPair g4 TO x b := b4.extBut _ _ D.TOi2 t3
  refine wpAny_bind (wpAny_seqItems t4 rfl (wpAny_bind (wpAny_updateSeq_pair t4 fun g5 t5 b5 => ?_)))
  replace t5 : IsPair g5 TO x y := t5
  refine wpAny_bind (wpAny_letGo (wpAny_pure (wpAny_pure (wpAny_bind (wpAny_seqItems t5 rfl (wpAny_bind (wpAny_newTuple ?_)))))))
  have sz : g5.objs.size = s.heap.objs.size := by rw [b5.1, b4.1, b3.1, b2.1, b1.1]
  have z5 : ZipAt g5 z TI TO .ellipsis f := b5.extBut _ _ D.TOz.symm (b4.extBut _ _ D.i2z.symm (b3.extBut _ _ D.TOz.symm (b2.extBut _ _ D.i1z.symm z1)))
  have k5 : ∀ c o, c ≠ z → c ≠ TO → c ≠ i1 → c ≠ i2 → s.heap.get? c = some o → g5.get? c = some o := fun c o c1 c2 c3 c4 e =>
    b5.extBut _ _ c2 (b4.extBut _ _ c4 (b3.extBut _ _ c2 (b2.extBut _ _ c3 (b1.extBut _ _ c1 e))))
  have i15 : g5.IsListIter i1 l1 (k1 + 1) := ((i12.extBut b3.extBut D.TOi1.symm).extBut b4.extBut D.i12).extBut b5.extBut D.TOi1.symm
  have i25 : g5.IsListIter i2 l2 (k2 + 1) := i24.extBut b5.extBut D.TOi2.symm
  have zl : z < g5.objs.size := Heap.lt_size z5
  show wpAny _ _ (Builtin.SmallTypes.ownedTupleHandOut (.ref z) (.ref g5.objs.size) >>= _) _ _ _
  refine wpAny_bind ?_
  unfold Builtin.SmallTypes.ownedTupleHandOut
  have z6 : ZipAt (g5.push { cls := .type "tuple", data := .seq #[x, y] }) z TI TO .ellipsis f := Heap.get?_push_of_some _ z5
  refine wpAny_bind (wpAny_setField_rec z6 (by simp) fun g7 z7 b7 => ?_)
  replace z7 : ZipAt g7 z TI TO (rawInt g5.objs.size) f := z7
  refine wpAny_setField_rec z7 (by simp) fun g8 z8 b8 => ?_
  replace z8 : ZipAt g8 z TI TO (rawInt g5.objs.size) false := z8
  have up : ∀ c o, c ≠ z → g5.get? c = some o → g8.get? c = some o := fun c o c1 e => b8.extBut _ _ c1 (b7.extBut _ _ c1 (Heap.get?_push_of_some _ e))
  have t8 : IsPair g8 g5.objs.size x y := b8.extBut _ _ (Nat.ne_of_gt zl) (b7.extBut _ _ (Nat.ne_of_gt zl) (Heap.get?_push_size _ rfl))
  have s8 : g8.objs.size = g5.objs.size + 1 := by rw [b8.1, b7.1, Heap.size_push]
  rw [sz] at z8 t8 s8
  refine wpAny_pure ⟨_, rfl, ?_⟩
  show Q (.ref g5.objs.size) _
  rw [sz]
  exact hQ g8 z8 (up _ _ D.TOz t5) (i15.at fun o e => up _ o D.i1z e) (i25.at fun o e => up _ o D.i2z e) t8 s8 fun c o c1 c2 c3 c4 e => up c o c1 (k5 c o c1 c2 c3 c4 e)
theorem end_free {z TI TO i1 i2 l1 l2 : Addr} {k1 k2 : Nat} {xs ys : Array Value} {a b f0 : Value} {f : Bool} {Q : Fin → Shared → Prop} (hh : A.handled = none) (D : ZipApart z TI TO i1 i2 l1 l2)
    (hz : ZipAt s.heap z TI TO f0 f) (fr : FreeF s.heap f0) (hTI : IsPair s.heap TI (.ref i1) (.ref i2)) (hTO : IsPair s.heap TO a b)
    (h1 : s.heap.IsListIter i1 l1 k1) (h2 : s.heap.IsListIter i2 l2 k2) (hl1 : s.heap.IsList l1 xs) (hl2 : s.heap.IsList l2 ys) (hend : xs[k1]? = none ∨ ys[k2]? = none)
    (hE : ∀ h' e, (∀ c o, c ≠ z → c ≠ TO → c ≠ i1 → c ≠ i2 → s.heap.get? c = some o → h'.get? c = some o) → (∃ o, h'.get? e = some o ∧ o.cls = .type "StopIteration") → E (.ref e) { s with heap := h' }) :
    wpAny (model prog w) A (Builtin.«zip.__next__» ⟨[.ref z], []⟩) Q E s := by
  show wpAny _ _ (field (.ref z) 2 >>= _) _ _ _
  refine wpAny_bind (wpAny_field hz rfl (x := .bool false) rfl ?_)
  show wpAny _ _ (field (.ref z) 3 >>= _) _ _ _
  refine wpAny_bind (wpAny_field hz rfl (x := .ref TI) rfl (wpAny_bind (wpAny_seqItems hTI rfl ?_)))
  show wpAny _ _ (Builtin.SmallTypes.ownedTupleIsFree (.ref z) >>= _) _ _ _
  refine wpAny_bind (is_free hz fr ?_)
  simp only [if_true]
  refine wpAny_bind (wpAny_rule (wpAny_bind (wpAny_field hz rfl (x := .ref TO) rfl (wpAny_bind (wpAny_setField_rec hz (by simp) fun g1 z1 b1 => ?_)))))
  replace z1 : ZipAt g1 z TI TO .ellipsis f := z1
  refine wpAny_bind ?_
  simp only [List.zipIdx_cons, List.zipIdx_nil, List.forIn_cons, List.forIn_nil]
  refine wpAny_bind (wpAny_bind (wpAny_onRaise ?_))
  show wpAny _ _ (Builtin.SmallTypes.nextOf (.ref i1) >>= _) _ _ _
  cases hx : xs[k1]? with
  | none =>
    refine wpAny_bind (wpAny_nextOf_list_end hh (h1.extBut b1.extBut D.i1z) (hl1.extBut b1.extBut D.l1z) hx fun g2 e b2 he => ?_)
    obtain ⟨oe, hoe, hce⟩ := he
    have z2 : ZipAt g2 z TI TO .ellipsis f := b2 _ _ D.i1z.symm z1
    have hez : e ≠ z := fun q => by subst q; rw [z2] at hoe; cases hoe; simp at hce
    exact wpAny_setField_rec z2 (by simp) fun g3 _ b3 => hE g3 e (fun c o c1 _ c3 _ q => b3.extBut _ _ c1 (b2 _ _ c3 (b1.extBut _ _ c1 q))) ⟨oe, b3.extBut _ _ hez hoe, hce⟩
  | some x =>
    have hy : ys[k2]? = none := by
      rcases hend with h | h
      · rw [hx] at h; cases h
      · exact h
    refine wpAny_bind (wpAny_nextOf_list_item (h1.extBut b1.extBut D.i1z) (hl1.extBut b1.extBut D.l1z) hx fun g2 i12 b2 => wpAny_pure ?_)
    have t2 : IsPair g2 TO a b := b2.extBut _ _ D.TOi1 (b1.extBut _ _ D.TOz hTO)
    refine wpAny_bind (wpAny_seqItems t2 rfl (wpAny_bind (wpAny_updateSeq_pair t2 fun g3 t3 b3 => ?_)))
    refine wpAny_bind (wpAny_letGo (wpAny_pure (wpAny_bind (wpAny_bind (wpAny_onRaise ?_)))))
    show wpAny _ _ (Builtin.SmallTypes.nextOf (.ref i2) >>= _) _ _ _
    refine wpAny_bind (wpAny_nextOf_list_end hh (((h2.extBut b1.extBut D.i2z).extBut b2.extBut D.i12.symm).extBut b3.extBut D.TOi2.symm)
      (((hl2.extBut b1.extBut D.l2z).extBut b2.extBut D.l2i1).extBut b3.extBut D.l2TO) hy fun g4 e b4 he => ?_)
    obtain ⟨oe, hoe, hce⟩ := he
    have z4 : ZipAt g4 z TI TO .ellipsis f := b4 _ _ D.i2z.symm (b3.extBut _ _ D.TOz.symm (b2.extBut _ _ D.i1z.symm z1))
    have hez : e ≠ z := fun q => by subst q; rw [z4] at hoe; cases hoe; simp at hce
    exact wpAny_setField_rec z4 (by simp) fun g5 _ b5 => hE g5 e (fun c o c1 c2 c3 c4 q => b5.extBut _ _ c1 (b4 _ _ c4 (b3.extBut _ _ c2 (b2.extBut _ _ c3 (b1.extBut _ _ c1 q))))) ⟨oe, b5.extBut _ _ hez hoe, hce⟩
/-- the next pair, whatever the last one is -/
theorem next_any {z TI TO i1 i2 l1 l2 : Addr} {k1 k2 : Nat} {xs ys : Array Value} {x y a b f0 : Value} {f : Bool} {Q : Option Value → Shared → Prop} (D : ZipApart z TI TO i1 i2 l1 l2)
    (hz : ZipAt s.heap z TI TO f0 f) (kind : f0 = .none ∨ ∃ T : Addr, f0 = rawInt T) (hTI : IsPair s.heap TI (.ref i1) (.ref i2)) (hTO : IsPair s.heap TO a b)
    (h1 : s.heap.IsListIter i1 l1 k1) (h2 : s.heap.IsListIter i2 l2 k2) (hl1 : s.heap.IsList l1 xs) (hl2 : s.heap.IsList l2 ys) (hx : xs[k1]? = some x) (hy : ys[k2]? = some y)
    (hQ : ∀ h' f0' f', ZipAt h' z TI TO f0' f' → (f0' = .none ∨ ∃ T : Addr, f0' = rawInt T) → (∃ a b, IsPair h' TO a b) → h'.IsListIter i1 l1 (k1 + 1) → h'.IsListIter i2 l2 (k2 + 1) → IsPair h' s.heap.objs.size x y → h'.objs.size = s.heap.objs.size + 1 →
      (∀ c o, c ≠ z → c ≠ TO → c ≠ i1 → c ≠ i2 → s.heap.get? c = some o → h'.get? c = some o) → Q (some (.ref s.heap.objs.size)) { s with heap := h' }) :
    wpAny (model prog w) A (pyNext (.ref z)) Q E s := by
  have hty : s.TypeIs (.ref z) "zip" := ⟨_, hz, rfl⟩
  have free : FreeF s.heap f0 → wpAny (model prog w) A (pyNext (.ref z)) Q E s := fun fr => by
    unfold pyNext
    exact wpAny_bind (wpAny_attempt (wpAny_callSpecial?_slot (name := Str.ofString "__next__") hty F.slot_zip_next
      (wpAny_call_entry F.slot_zip_next hty F.entry_zip_next
        (next_free D hz fr hTI hTO h1 h2 hl1 hl2 hx hy fun h' a1 a2 a3 a4 a5 a6 a7 => wpAny_pure (hQ h' _ _ a1 (.inr ⟨_, rfl⟩) ⟨_, _, a2⟩ a3 a4 a5 a6 a7)) (F.args_zip_next_1 _))))
  rcases kind with rfl | ⟨T, rfl⟩
  · exact free (.inl rfl)
  · cases hT : s.heap.get? T with
    | none => exact free (.inr ⟨T, rfl, hT⟩)
    | some oT =>
      refine wpAny_pyNext_zip_item_held D (show IsZipHeld s.heap z TI TO T f from hz) hT hTI h1 h2 hl1 hl2 hx hy fun h' a1 a3 a4 a5 a6 a7 => hQ h' _ _ a1 (.inr ⟨_, rfl⟩) ⟨a, b, ?_⟩ a3 a4 a5 a6 fun c o c1 _ c3 c4 e => a7 c o c1 c3 c4 e
      exact a7 _ _ D.TOz D.TOi1 D.TOi2 hTO
theorem done_any {z TI TO i1 i2 l1 l2 : Addr} {k1 k2 : Nat} {xs ys : Array Value} {a b f0 : Value} {f : Bool} {Q : Option Value → Shared → Prop} (hh : A.handled = none) (D : ZipApart z TI TO i1 i2 l1 l2)
    (hz : ZipAt s.heap z TI TO f0 f) (kind : f0 = .none ∨ ∃ T : Addr, f0 = rawInt T) (hTI : IsPair s.heap TI (.ref i1) (.ref i2)) (hTO : IsPair s.heap TO a b)
    (h1 : s.heap.IsListIter i1 l1 k1) (h2 : s.heap.IsListIter i2 l2 k2) (hl1 : s.heap.IsList l1 xs) (hl2 : s.heap.IsList l2 ys) (hend : xs[k1]? = none ∨ ys[k2]? = none)
    (hQ : ∀ h', (∀ c o, c ≠ z → c ≠ TO → c ≠ i1 → c ≠ i2 → s.heap.get? c = some o → h'.get? c = some o) → Q none { s with heap := h' }) : wpAny (model prog w) A (pyNext (.ref z)) Q E s := by
  have hty : s.TypeIs (.ref z) "zip" := ⟨_, hz, rfl⟩
  have free : FreeF s.heap f0 → wpAny (model prog w) A (pyNext (.ref z)) Q E s := fun fr => by
    unfold pyNext
    refine wpAny_bind (wpAny_attempt (wpAny_callSpecial?_slot (name := Str.ofString "__next__") hty F.slot_zip_next
      (wpAny_call_entry F.slot_zip_next hty F.entry_zip_next (end_free hh D hz fr hTI hTO h1 h2 hl1 hl2 hend fun h' e hk he => ?_) (F.args_zip_next_1 _))))
    obtain ⟨o, ho, hc⟩ := he
    exact wpAny_bind (wpAny_isInstance (T := "StopIteration") (b := true) ⟨o, ho, hc⟩ isSubtype_stop (wpAny_pure (hQ _ hk)))
  rcases kind with rfl | ⟨T, rfl⟩
  · exact free (.inl rfl)
  · cases hT : s.heap.get? T with
    | none => exact free (.inr ⟨T, rfl, hT⟩)
    | some oT => exact wpAny_pyNext_zip_end_held hh D (show IsZipHeld s.heap z TI TO T f from hz) hT hTI h1 h2 hl1 hl2 hend fun h' a7 => hQ h' fun c o c1 _ c3 c4 e => a7 c o c1 c3 c4 e
end
theorem iter_any {P : Program} {w : World} {A : Around} {E : Value → Shared → Prop} {s : Shared} {z TI TO : Addr} {f0 : Value} {f : Bool} {Q : Value → Shared → Prop} (hz : ZipAt s.heap z TI TO f0 f) (h : Q (.ref z) s) : wpAny (model P w) A (pyIter (.ref z)) Q E s := by
  have hty : s.TypeIs (.ref z) "zip" := ⟨_, hz, rfl⟩
  refine wpAny_pyIter_slot hty F.slot_zip_iter (wpAny_call_entry F.slot_zip_iter hty F.entry_zip_iter ?_ (F.args_zip_iter_1 _))
  show wpAny _ _ (ret (.ref z)) _ _ s
  exact wpAny_pure ⟨_, rfl, "zip", _, hty, F.slot_zip_next.lookup, h⟩
theorem turn_zipN {P : Program} {w : World} {K : PySem.W.Frag} {tx : Str} {tpos : Pos} {a b z TI TO i1 i2 : Addr} (D : ZipApart z TI TO i1 i2 a b) :
    Turn P w K (.Name tx tpos) (Itz K a b) [z, TI, TO, i1, i2] z (fun i h => (∃ f0 f, ZipAt h z TI TO f0 f ∧ (f0 = .none ∨ ∃ T : Addr, f0 = rawInt T)) ∧ IsPair h TI (.ref i1) (.ref i2) ∧ (∃ x y, IsPair h TO x y) ∧ h.IsListIter i1 a i ∧ h.IsListIter i2 b i) where
  mem := List.mem_cons_self
  obj := fun i h st c hc => by
    obtain ⟨⟨f0, f, hz, _⟩, hTI, ⟨x, y, hTO⟩, ⟨o1, e1, _, d1⟩, ⟨o2, e2, _, d2⟩⟩ := st
    have e' : c = z ∨ c = TI ∨ c = TO ∨ c = i1 ∨ c = i2 := by simpa using hc
    rcases e' with q | q | q | q | q
    · rw [q]; exact ⟨_, hz, fun v q => nomatch q⟩
    · rw [q]; exact ⟨_, hTI, fun v q => nomatch q⟩
    · rw [q]; exact ⟨_, hTO, fun v q => nomatch q⟩
    · rw [q]; exact ⟨o1, e1, fun v q => by rw [d1] at q; cases q⟩
    · rw [q]; exact ⟨o2, e2, fun v q => by rw [d2] at q; cases q⟩
  keep := fun i h h' st k => by
    obtain ⟨⟨f0, f, hz, kd⟩, hTI, ⟨x, y, hTO⟩, h1, h2⟩ := st
    exact ⟨⟨f0, f, k z (by simp) _ hz, kd⟩, k TI (by simp) _ hTI, ⟨x, y, k TO (by simp) _ hTO⟩, h1.at fun o q => k i1 (by simp) o q, h2.at fun o q => k i2 (by simp) o q⟩
  item := by
    intro X hP hw hK hc i pins s σ H E I hf st hg
    subst hP hw hK
    obtain ⟨⟨f0, f, hz, kd⟩, hTI, ⟨x0, y0, hTO⟩, h1, h2⟩ := st
    obtain ⟨xs, ys, x, y, hqx, hqy, hx, hy⟩ := hg
    obtain ⟨its, rv, p, _⟩ := I.list hqx
    obtain ⟨its2, rv2, p2, _⟩ := I.list hqy
    obtain ⟨u, hu, ru⟩ := rv.get hx
    obtain ⟨u2, hu2, ru2⟩ := rv2.get hy
    have zl : z < s.heap.objs.size := Heap.lt_size hz
    have lTI : TI < s.heap.objs.size := Heap.lt_size hTI
    have lTO : TO < s.heap.objs.size := Heap.lt_size hTO
    have li1 : i1 < s.heap.objs.size := by obtain ⟨_, e1, _⟩ := h1; exact Heap.lt_size e1
    have li2 : i2 < s.heap.objs.size := by obtain ⟨_, e1, _⟩ := h2; exact Heap.lt_size e1
    refine next_any D hz kd hTI hTO h1 h2 p.isList p2.isList (x := u) (y := u2) (by simpa using hu) (by simpa using hu2) fun h' g0 g z' kd' TO' h1' h2' hT hsz hk => ⟨_, rfl, ?_⟩
    unfold letOwnedTupleGo
    refine wpAny_pure ?_
    have new : ObjOk X.prog X.w (upd H s.heap.objs.size (.tup [x, y])) h' s.heap.objs.size (.tup [x, y]) :=
      ⟨by show 2 ≤ sizeLine; decide, [u, u2], .cons ru (.cons ru2 .nil), ⟨_, hT, rfl, _, rfl⟩⟩
    have I1 : Inv X pins σ (upd H s.heap.objs.size (.tup [x, y])) { s with heap := h' } :=
      I.turnedNew (t' := s.toks) (ch := [z, TI, TO, i1, i2]) (fun c o hb q => hk c o (fun q' => hb (by simp [q'])) (fun q' => hb (by simp [q'])) (fun q' => hb (by simp [q'])) (fun q' => hb (by simp [q'])) q) hf (Nat.le_refl _) new
    refine ⟨.ref s.heap.objs.size, _, I1, rfl, ⟨_, x, y, rfl, I.hok.fresh (Nat.le_refl _), rfl, fun l hl => by rw [I.list_inj hl hqx]; exact hx, fun l hl => by rw [I.list_inj hl hqy]; exact hy⟩, ⟨⟨g0, g, z', kd'⟩, hk _ _ D.TIz D.TITO D.TIi1 D.TIi2 hTI, TO', h1', h2'⟩, fun c hcm => ?_⟩
    have hlt : c < s.heap.objs.size := by
      have e' : c = z ∨ c = TI ∨ c = TO ∨ c = i1 ∨ c = i2 := by simpa using hcm
      rcases e' with q | q | q | q | q <;> rw [q] <;> assumption
    rw [upd_ne (Nat.ne_of_lt hlt)]
    exact (hf c hcm).1
  done := by
    intro X hP hw hK hc i pins s σ H E I hf st hg
    subst hP hw hK
    obtain ⟨⟨f0, f, hz, kd⟩, hTI, ⟨x0, y0, hTO⟩, h1, h2⟩ := st
    obtain ⟨xs, ys, hqx, hqy, hend⟩ := hg
    obtain ⟨its, rv, p, _⟩ := I.list hqx
    obtain ⟨its2, rv2, p2, _⟩ := I.list hqy
    have l1 := rv.length
    have l2 := rv2.length
    have he : its.toArray[i]? = none ∨ its2.toArray[i]? = none := by
      rcases hend with q | q
      · exact .inl (by simp; omega)
      · exact .inr (by simp; omega)
    exact done_any (I.ok.hd hc) D hz kd hTI hTO h1 h2 p.isList p2.isList he fun h' hk => ⟨rfl, I.turnedL (t' := s.toks) (ch := [z, TI, TO, i1, i2]) (fun c o hb q =>
      hk c o (fun q' => hb (by simp [q'])) (fun q' => hb (by simp [q'])) (fun q' => hb (by simp [q'])) (fun q' => hb (by simp [q'])) q) hf⟩
  self := fun A i s Q E st h => by
    obtain ⟨⟨f0, f, hz, _⟩, _⟩ := st
    exact iter_any hz h
theorem pi_zipN {X : Cx} {e e2 : Expr} {ta : TA} {p pos tpos : Pos} {tx : Str} (hg : Gl X "zip") (hm : X.mg "zip" = none) (ha : PA X [e, e2] ta)
    (hs : starEach [e, e2] X.env = (false, eval e X.env) :: starEach [e2] X.env) (hp : (backTo pos (starEach [e2] X.env)).any (·.1) = false) :
    PI X (.Name tx tpos) (.Call (.Name "zip" p) [e, e2] [] pos) (fun σ H R => ta σ H fun vs H1 => ∃ a b xs ys, vs = [.ref a, .ref b] ∧ SqL X.K H1 a xs ∧ SqL X.K H1 b ys ∧ R (Itz X.K a b) H1) := by
  refine ⟨fun pins s σ H R I h => Call_ (ld_blt I hg hm PyProof.Rows.boot_zip (PyProof.Rows.callWith_type1 (thn (ha.run pos pins s σ H _ I h) fun us s1 ⟨vs, H1, I1, r1, a, b, xs, ys, ex, hqx, hqy, q⟩ => ?_) hs hp))⟩
  subst ex
  obtain ⟨y1, y2, rfl, ry1, ry2⟩ := vals2 r1
  cases ry1
  cases ry2
  obtain ⟨its, rv, p1, _⟩ := I1.list hqx
  obtain ⟨its2, rv2, p2, _⟩ := I1.list hqy
  refine call_zip_2 p1.isList p2.isList fun h' hz hTI hTO h1 h2 hsz hk => wpAny_pyIter_zip hz ?_
  have I2 : Inv X pins σ H1 { s1 with heap := h' } := I1.kept (t' := s1.toks) hk
  refine ⟨s1.heap.objs.size + 4, [s1.heap.objs.size + 4, s1.heap.objs.size + 2, s1.heap.objs.size + 3, s1.heap.objs.size, s1.heap.objs.size + 1], _, _, H1, rfl, I2, turn_zipN (PySem.W.ktu_apart s1.heap.objs.size a b p1.lt p2.lt), ⟨⟨_, _, hz, .inl rfl⟩, hTI, ⟨_, _, hTO⟩, h1, h2⟩, fun c hcm => ?_, q⟩
  have hle : s1.heap.objs.size ≤ c := five_le hcm
  exact I1.fpOk hle (I1.hok.fresh hle)
end Zh

/-! ZsA: how the values and the heap of Z lie in the hand layer's: Rep, HR, what may come behind (Nx). -/
namespace Z
open PySem L2

abbrev H0 : Hp := fun _ => none
/-- a tuple; a list that never changes -/
def TL (K : PySem.W.Frag) (H : Hp) (a : Addr) (vs : List V) : Prop := H a = some (.tup vs)
def IL (K : PySem.W.Frag) (H : Hp) (a : Addr) (vs : List V) : Prop := (∃ o, H a = some (.frz o (.lst vs))) ∨ SqL K H0 a vs
theorem TL.sq {K : PySem.W.Frag} {H : Hp} {a : Addr} {vs : List V} (h : TL K H a vs) : SqT K H a vs := .inl (.inl h)
theorem sq0T {K : PySem.W.Frag} {H : Hp} {a : Addr} {vs : List V} (h : SqT K H0 a vs) : SqT K H a vs := by
  rcases h with (h | ⟨o, h⟩) | h
  · cases h
  · cases h
  · exact .inr h
theorem IL.sq {K : PySem.W.Frag} {H : Hp} {a : Addr} {vs : List V} (h : IL K H a vs) : SqL K H a vs := by
  rcases h with ⟨o, h⟩ | (h | ⟨o, h⟩) | h
  · exact .inl (.inr ⟨o, h⟩)
  · cases h
  · cases h
  · exact .inr h

mutual
def Rep (K : PySem.W.Frag) (ρ : List Addr) (H : Hp) : PV → V → Prop
  | .non, v => v = .non
  | .bl b, v => v = .bl b
  | .int i, v => v = .int i
  | .str s, v => v = .str s
  | .tup xs, v => ∃ a vs, v = .ref a ∧ TL K H a vs ∧ Reps K ρ H xs vs
  | .ils xs, v => ∃ a vs, v = .ref a ∧ IL K H a vs ∧ Reps K ρ H xs vs
  | .itp xs, v => ∃ a vs, v = .ref a ∧ Zh.Whole K H a vs ∧ Reps K ρ H xs vs
  | .exc c ns xs, v => ∃ (a C : Addr) (d : Option Addr) (gs : List V), v = .ref a ∧ PySem.W.nsIn K mainGlobals c = some (some (.ref C)) ∧ H a = some (Zh.KeptX (.ref C) d a) ∧ Reps K ρ H xs gs ∧ ns.length = gs.length ∧ ((ns = [] ∧ d = none) ∨ ∃ dd : Addr, d = some dd ∧ H dd = some (.xd (ns.zip gs)))
  | .ref i, v => ∃ a, ρ[i]? = some a ∧ v = .ref a
def Reps (K : PySem.W.Frag) (ρ : List Addr) (H : Hp) : List PV → List V → Prop
  | [], vs => vs = []
  | x :: xs, vs => ∃ v r, vs = v :: r ∧ Rep K ρ H x v ∧ Reps K ρ H xs r
end
def RepD1 (K : PySem.W.Frag) (ρ : List Addr) (H : Hp) : List (Ky × PV) → List (Key × V) → Prop
  | [], kvs => kvs = []
  | (k, x) :: r, kvs => ∃ j v r', kvs = (j, v) :: r' ∧ k = .one j ∧ Rep K ρ H x v ∧ RepD1 K ρ H r r'
def RepD2 (K : PySem.W.Frag) (ρ : List Addr) (H : Hp) : List (Ky × PV) → List (List Key × V) → Prop
  | [], kvs => kvs = []
  | (k, x) :: r, kvs => ∃ j v r', kvs = (j, v) :: r' ∧ k = .many j ∧ Rep K ρ H x v ∧ RepD2 K ρ H r r'
def RepF (K : PySem.W.Frag) (ρ : List Addr) (H : Hp) : List (Str × PV) → List (Str × V) → Prop
  | [], fs => fs = []
  | (f, x) :: r, fs => ∃ v r', fs = (f, v) :: r' ∧ Rep K ρ H x v ∧ RepF K ρ H r r'

/-- what a place of the heap is -/
def RepO (K : PySem.W.Frag) (mg : Str → Option Value) (ρ : List Addr) (H : Hp) (o : Ob) (a : Addr) : Prop := match o with
  | .lst xs => ∃ vs, H a = some (.lst vs) ∧ Reps K ρ H xs vs
  | .dic kvs => (∃ ws, H a = some (.dK ws) ∧ RepD1 K ρ H kvs ws) ∨ ∃ ws, H a = some (.dT ws) ∧ RepD2 K ρ H kvs ws
  | .ins c fs => ∃ C dx gs, mg c = some (.ref C) ∧ H a = some (.ins C dx gs) ∧ RepF K ρ H fs gs
  | .ldc u kvs => H a = some u ∧ ((∃ o ws, u = .frz o (.dK ws) ∧ RepD1 K ρ H kvs ws) ∨ ∃ o ws, u = .frz o (.dT ws) ∧ RepD2 K ρ H kvs ws)

structure HR (K : PySem.W.Frag) (mg : Str → Option Value) (ρ : List Addr) (h : Hep) (H : Hp) : Prop where
  len : ρ.length = h.length
  nd : ρ.Nodup
  ob : ∀ (i : Nat) (o : Ob) (a : Addr), h[i]? = some o → ρ[i]? = some a → RepO K mg ρ H o a

/-- what may come behind -/
structure Nx (ρ : List Addr) (H : Hp) (ρ' : List Addr) (H' : Hp) : Prop where
  pre : ∃ t, ρ' = ρ ++ t
  fr : ∀ a o, H a = some o → a ∉ ρ → H' a = some o
  nw : ∀ a, a ∈ ρ' → a ∉ ρ → H a = none
theorem Nx.refl {ρ : List Addr} {H : Hp} : Nx ρ H ρ H := ⟨⟨[], by simp⟩, fun _ _ h _ => h, fun _ h n => absurd h n⟩
theorem Nx.at {ρ ρ' : List Addr} {H H' : Hp} (n : Nx ρ H ρ' H') {i : Nat} {a : Addr} (e : ρ[i]? = some a) : ρ'[i]? = some a := by
  obtain ⟨t, rfl⟩ := n.pre
  rw [List.getElem?_append_left (List.getElem?_eq_some_iff.mp e).1]
  exact e
theorem Nx.mem {ρ ρ' : List Addr} {H H' : Hp} (n : Nx ρ H ρ' H') {a : Addr} (e : a ∈ ρ) : a ∈ ρ' := by
  obtain ⟨t, rfl⟩ := n.pre
  exact List.mem_append_left _ e
theorem Nx.trans {ρ ρ1 ρ2 : List Addr} {H H1 H2 : Hp} (n : Nx ρ H ρ1 H1) (m : Nx ρ1 H1 ρ2 H2) : Nx ρ H ρ2 H2 := by
  refine ⟨?_, fun a o e h => ?_, fun a e h => ?_⟩
  · obtain ⟨t, rfl⟩ := n.pre
    obtain ⟨u, rfl⟩ := m.pre
    exact ⟨t ++ u, by rw [List.append_assoc]⟩
  · have h1 : a ∉ ρ1 := fun z => by
      have := n.nw a z h
      rw [e] at this
      cases this
    exact m.fr a o (n.fr a o e h) h1
  · by_cases h1 : a ∈ ρ1
    · exact n.nw a h1 h
    · have q := m.nw a e h1
      cases r : H a with
      | none => rfl
      | some o =>
        rw [n.fr a o r h] at q
        cases q

section
variable {K : PySem.W.Frag} {mg : Str → Option Value} {ρ ρ' : List Addr} {h : Hep} {H H' : Hp}
/-- a mutable thing -/
def isMu : HO → Prop
  | .lst _ => True | .dK _ => True | .dT _ => True | .ins _ _ _ => True | .frz _ (.dK _) => True | .frz _ (.dT _) => True | _ => False
theorem HR.mu (r : HR K mg ρ h H) {a : Addr} (e : a ∈ ρ) : ∃ o, H a = some o ∧ isMu o := by
  obtain ⟨i, hi, rfl⟩ := List.getElem_of_mem e
  have hi' : i < h.length := by rw [← r.len]; exact hi
  have q := r.ob i h[i] ρ[i] (List.getElem?_eq_getElem hi') (List.getElem?_eq_getElem hi)
  cases ho : h[i] with
  | lst xs =>
    rw [ho] at q
    obtain ⟨vs, e, _⟩ := q
    exact ⟨_, e, trivial⟩
  | dic kvs =>
    rw [ho] at q
    rcases q with ⟨ws, e, _⟩ | ⟨ws, e, _⟩
    · exact ⟨_, e, trivial⟩
    · exact ⟨_, e, trivial⟩
  | ins c fs =>
    rw [ho] at q
    obtain ⟨C, dx, gs, _, e, _⟩ := q
    exact ⟨_, e, trivial⟩
  | ldc u kvs =>
    rw [ho] at q
    obtain ⟨e, q⟩ := q
    rcases q with ⟨o, ws, rfl, _⟩ | ⟨o, ws, rfl, _⟩
    · exact ⟨_, e, trivial⟩
    · exact ⟨_, e, trivial⟩
theorem HR.fresh (r : HR K mg ρ h H) {p : Addr} (e : H p = none) : p ∉ ρ := fun z => by
  obtain ⟨o, q, _⟩ := r.mu z
  rw [e] at q
  cases q
theorem HR.nomu (r : HR K mg ρ h H) {a : Addr} {o : HO} (e : H a = some o) (n : ¬ isMu o) : a ∉ ρ := fun z => by
  obtain ⟨o', q, m⟩ := r.mu z
  rw [e] at q
  cases q
  exact n m
theorem TL.nx {a : Addr} {vs : List V} (t : TL K H a vs) (r : HR K mg ρ h H) (n : Nx ρ H ρ' H') : TL K H' a vs := by
  exact n.fr a _ t (r.nomu t fun z => z)
theorem IL.nx {a : Addr} {vs : List V} (t : IL K H a vs) (r : HR K mg ρ h H) (n : Nx ρ H ρ' H') : IL K H' a vs := by
  rcases t with ⟨o, t⟩ | t
  · exact .inl ⟨o, n.fr a _ t (r.nomu t fun z => z)⟩
  · exact .inr t

theorem wh_nx {a : Addr} {vs : List V} (t : Zh.Whole K H a vs) (r : HR K mg ρ h H) (n : Nx ρ H ρ' H') : Zh.Whole K H' a vs := by
  rcases t with ⟨o, d, t⟩ | t
  · exact .inl ⟨o, d, n.fr a _ t (r.nomu t fun z => z)⟩
  · exact .inr t

/-- a map of the places, and heaps that keep tuples: what Rep leans on -/
structure Stay (K : PySem.W.Frag) (ρ : List Addr) (H : Hp) (ρ' : List Addr) (H' : Hp) : Prop where
  tl : ∀ a vs, TL K H a vs → TL K H' a vs
  il : ∀ a vs, IL K H a vs → IL K H' a vs
  wl : ∀ a vs, Zh.Whole K H a vs → Zh.Whole K H' a vs
  xl : ∀ a cls d, H a = some (Zh.KeptX cls d a) → H' a = some (Zh.KeptX cls d a)
  xd : ∀ a fs, H a = some (.xd fs) → H' a = some (.xd fs)
  rf : ∀ (i : Nat) (a : Addr), ρ[i]? = some a → ρ'[i]? = some a
theorem HR.stay (r : HR K mg ρ h H) (n : Nx ρ H ρ' H') : Stay K ρ H ρ' H' := ⟨fun a vs t => t.nx r n, fun a vs t => t.nx r n, fun a vs t => wh_nx t r n, fun a cls d t => n.fr a _ t (r.nomu t fun z => z), fun a fs t => n.fr a _ t (r.nomu t fun z => z), fun i a e => n.at e⟩
mutual
theorem Rep.stay (s : Stay K ρ H ρ' H') : ∀ (x : PV) (v : V), Rep K ρ H x v → Rep K ρ' H' x v
  | .non, _, q => q
  | .bl _, _, q => q
  | .int _, _, q => q
  | .str _, _, q => q
  | .tup xs, _, ⟨a, vs, e, t, q⟩ => ⟨a, vs, e, s.tl a vs t, Reps.stay s xs vs q⟩
  | .ils xs, _, ⟨a, vs, e, t, q⟩ => ⟨a, vs, e, s.il a vs t, Reps.stay s xs vs q⟩
  | .itp xs, _, ⟨a, vs, e, t, q⟩ => ⟨a, vs, e, s.wl a vs t, Reps.stay s xs vs q⟩
  | .exc c ns xs, _, ⟨a, C, d, gs, e, n, t, q, l, z⟩ => ⟨a, C, d, gs, e, n, s.xl a _ d t, Reps.stay s xs gs q, l, z.imp (fun y => y) fun ⟨dd, e2, y⟩ => ⟨dd, e2, s.xd dd _ y⟩⟩
  | .ref i, _, ⟨a, e, q⟩ => ⟨a, s.rf i a e, q⟩
theorem Reps.stay (s : Stay K ρ H ρ' H') : ∀ (xs : List PV) (vs : List V), Reps K ρ H xs vs → Reps K ρ' H' xs vs
  | [], _, q => q
  | x :: xs, _, ⟨v, r, e, q, t⟩ => ⟨v, r, e, Rep.stay s x v q, Reps.stay s xs r t⟩
end
theorem RepD1.stay (s : Stay K ρ H ρ' H') : ∀ (xs : List (Ky × PV)) (vs : List (Key × V)), RepD1 K ρ H xs vs → RepD1 K ρ' H' xs vs
  | [], _, q => q
  | (k, x) :: xs, _, ⟨j, v, r, e, e2, q, t⟩ => ⟨j, v, r, e, e2, Rep.stay s x v q, RepD1.stay s xs r t⟩
theorem RepD2.stay (s : Stay K ρ H ρ' H') : ∀ (xs : List (Ky × PV)) (vs : List (List Key × V)), RepD2 K ρ H xs vs → RepD2 K ρ' H' xs vs
  | [], _, q => q
  | (k, x) :: xs, _, ⟨j, v, r, e, e2, q, t⟩ => ⟨j, v, r, e, e2, Rep.stay s x v q, RepD2.stay s xs r t⟩
theorem RepF.stay (s : Stay K ρ H ρ' H') : ∀ (xs : List (Str × PV)) (vs : List (Str × V)), RepF K ρ H xs vs → RepF K ρ' H' xs vs
  | [], _, q => q
  | (f, x) :: xs, _, ⟨v, r, e, q, t⟩ => ⟨v, r, e, Rep.stay s x v q, RepF.stay s xs r t⟩
theorem RepO.stay (s : Stay K ρ H ρ' H') {o : Ob} {a : Addr} (e : H' a = H a) (q : RepO K mg ρ H o a) : RepO K mg ρ' H' o a := by
  cases o with
  | lst xs =>
    obtain ⟨vs, e1, q⟩ := q
    exact ⟨vs, e.trans e1, Reps.stay s xs vs q⟩
  | dic kvs =>
    rcases q with ⟨ws, e1, q⟩ | ⟨ws, e1, q⟩
    · exact .inl ⟨ws, e.trans e1, RepD1.stay s kvs ws q⟩
    · exact .inr ⟨ws, e.trans e1, RepD2.stay s kvs ws q⟩
  | ins c fs =>
    obtain ⟨C, dx, gs, m, e1, q⟩ := q
    exact ⟨C, dx, gs, m, e.trans e1, RepF.stay s fs gs q⟩
  | ldc u kvs =>
    obtain ⟨e1, q⟩ := q
    rcases q with ⟨o, ws, e2, q⟩ | ⟨o, ws, e2, q⟩
    · exact ⟨e.trans e1, .inl ⟨o, ws, e2, RepD1.stay s kvs ws q⟩⟩
    · exact ⟨e.trans e1, .inr ⟨o, ws, e2, RepD2.stay s kvs ws q⟩⟩
theorem Rep.nx {x : PV} {v : V} (q : Rep K ρ H x v) (r : HR K mg ρ h H) (n : Nx ρ H ρ' H') : Rep K ρ' H' x v := Rep.stay (r.stay n) x v q
theorem Reps.nx {xs : List PV} {vs : List V} (q : Reps K ρ H xs vs) (r : HR K mg ρ h H) (n : Nx ρ H ρ' H') : Reps K ρ' H' xs vs := Reps.stay (r.stay n) xs vs q

/-- nothing of ours is touched: a new untracked thing (a tuple) -/
theorem HR.tupl (r : HR K mg ρ h H) {p : Addr} (e : H p = none) (o : HO) : HR K mg ρ h (upd H p o) ∧ Nx ρ H ρ (upd H p o) := by
  have n : Nx ρ H ρ (upd H p o) := ⟨⟨[], by simp⟩, fun a u q _ => by rw [upd_ne (ne_of_none q e)]; exact q, fun a q z => absurd q z⟩
  refine ⟨⟨r.len, r.nd, fun i u a h1 h2 => ?_⟩, n⟩
  refine RepO.stay (r.stay n) ?_ (r.ob i u a h1 h2)
  have hp := r.fresh e
  exact upd_ne fun z => hp (z ▸ List.mem_of_getElem? h2)
/-- a new thing of ours -/
theorem HR.alloc (r : HR K mg ρ h H) {p : Addr} (e : H p = none) {u : HO} {o : Ob} (new : RepO K mg (ρ ++ [p]) (upd H p u) o p) : HR K mg (ρ ++ [p]) (h ++ [o]) (upd H p u) ∧ Nx ρ H (ρ ++ [p]) (upd H p u) := by
  have hp := r.fresh e
  have n : Nx ρ H (ρ ++ [p]) (upd H p u) := ⟨⟨[p], rfl⟩, fun a w q _ => by rw [upd_ne (ne_of_none q e)]; exact q, fun a q z => by
    rcases List.mem_append.mp q with q | q
    · exact absurd q z
    · rw [List.mem_singleton.mp q]; exact e⟩
  refine ⟨⟨by rw [List.length_append, List.length_append, r.len] <;> rfl, ?_, fun i w a h1 h2 => ?_⟩, n⟩
  · rw [List.nodup_append]
    refine ⟨r.nd, by simp, fun a ha b hb => ?_⟩
    rw [List.mem_singleton.mp hb]
    exact fun z => hp (z ▸ ha)
  · by_cases hi : i < h.length
    · rw [List.getElem?_append_left hi] at h1
      rw [List.getElem?_append_left (by rw [r.len]; exact hi)] at h2
      refine RepO.stay (r.stay n) ?_ (r.ob i w a h1 h2)
      exact upd_ne fun z => hp (z ▸ List.mem_of_getElem? h2)
    · have hl : i < (h ++ [o]).length := (List.getElem?_eq_some_iff.mp h1).1
      rw [List.length_append] at hl
      have hi' : i = h.length := by simp at hl; omega
      subst hi'
      rw [List.getElem?_append_right (Nat.le_refl _), Nat.sub_self] at h1
      rw [← r.len, List.getElem?_append_right (Nat.le_refl _), Nat.sub_self] at h2
      cases h1
      cases h2
      exact new
/-- one of ours is written -/
theorem HR.write (r : HR K mg ρ h H) {i : Nat} {a : Addr} (e : ρ[i]? = some a) {u : HO} {o : Ob} (new : RepO K mg ρ (upd H a u) o a) : HR K mg ρ (h.set i o) (upd H a u) ∧ Nx ρ H ρ (upd H a u) := by
  have hm : a ∈ ρ := List.mem_of_getElem? e
  have n : Nx ρ H ρ (upd H a u) := ⟨⟨[], by simp⟩, fun b w q z => by rw [upd_ne (fun y => z (by rw [y]; exact hm) : b ≠ a)]; exact q, fun b q z => absurd q z⟩
  refine ⟨⟨by rw [List.length_set]; exact r.len, r.nd, fun j w b h1 h2 => ?_⟩, n⟩
  by_cases hj : i = j
  · subst hj
    rw [e] at h2
    cases h2
    rw [List.getElem?_set_self (by rw [← r.len]; exact (List.getElem?_eq_some_iff.mp e).1)] at h1
    cases h1
    exact new
  · rw [List.getElem?_set_ne hj] at h1
    refine RepO.stay (r.stay n) ?_ (r.ob j w b h1 h2)
    refine upd_ne fun z => hj ?_
    subst z
    have h3 := (List.getElem?_eq_some_iff.mp e)
    have h4 := (List.getElem?_eq_some_iff.mp h2)
    obtain ⟨l1, e1⟩ := h3
    obtain ⟨l2, e2⟩ := h4
    exact (List.getElem_inj r.nd).mp (e1.trans e2.symm)
theorem HR.get (r : HR K mg ρ h H) {i : Nat} {o : Ob} (e : h[i]? = some o) : ∃ a, ρ[i]? = some a ∧ RepO K mg ρ H o a := by
  have hi : i < ρ.length := by rw [r.len]; exact (List.getElem?_eq_some_iff.mp e).1
  exact ⟨ρ[i], List.getElem?_eq_getElem hi, r.ob i o _ e (List.getElem?_eq_getElem hi)⟩
theorem HR.lst (r : HR K mg ρ h H) {i : Nat} {xs : List PV} (e : h[i]? = some (.lst xs)) : ∃ a vs, ρ[i]? = some a ∧ H a = some (.lst vs) ∧ Reps K ρ H xs vs := by
  obtain ⟨a, e1, vs, e2, q⟩ := r.get e
  exact ⟨a, vs, e1, e2, q⟩

/-! ### lists of values -/
theorem Reps.len : ∀ {xs : List PV} {vs : List V}, Reps K ρ H xs vs → xs.length = vs.length
  | [], _, q => by cases q; rfl
  | _ :: xs, _, ⟨v, r, e, _, t⟩ => by subst e; rw [List.length_cons, List.length_cons, Reps.len t]
theorem Reps.get : ∀ {xs : List PV} {vs : List V} {i : Nat} {x : PV}, Reps K ρ H xs vs → xs[i]? = some x → ∃ v, vs[i]? = some v ∧ Rep K ρ H x v
  | [], _, _, _, _, e => by simp at e
  | y :: ys, _, 0, x, ⟨v, r, e1, q, t⟩, e => by
    subst e1
    simp at e
    subst e
    exact ⟨v, rfl, q⟩
  | y :: ys, _, i + 1, x, ⟨v, r, e1, q, t⟩, e => by
    subst e1
    exact Reps.get (i := i) t (by simpa using e)
theorem Reps.get' : ∀ {xs : List PV} {vs : List V} {i : Nat} {v : V}, Reps K ρ H xs vs → vs[i]? = some v → ∃ x, xs[i]? = some x ∧ Rep K ρ H x v
  | [], _, _, _, q, e => by cases q; simp at e
  | y :: ys, _, 0, x, ⟨v, r, e1, q, t⟩, e => by
    subst e1
    simp at e
    subst e
    exact ⟨y, rfl, q⟩
  | y :: ys, _, i + 1, x, ⟨v, r, e1, q, t⟩, e => by
    subst e1
    exact Reps.get' (i := i) t (by simpa using e)
theorem Reps.app : ∀ {xs ys : List PV} {vs ws : List V}, Reps K ρ H xs vs → Reps K ρ H ys ws → Reps K ρ H (xs ++ ys) (vs ++ ws)
  | [], _, _, _, q, t => by cases q; exact t
  | x :: xs, _, _, _, ⟨v, r, e, q, t⟩, u => by subst e; exact ⟨v, _, rfl, q, Reps.app t u⟩
theorem Reps.one {x : PV} {v : V} (q : Rep K ρ H x v) : Reps K ρ H [x] [v] := ⟨v, [], rfl, q, rfl⟩
theorem Reps.set : ∀ {xs : List PV} {vs : List V} (i : Nat) {x : PV} {v : V}, Reps K ρ H xs vs → Rep K ρ H x v → Reps K ρ H (xs.set i x) (vs.set i v)
  | [], _, _, _, _, q, _ => by cases q; exact rfl
  | y :: ys, _, 0, _, _, ⟨v, r, e, q, t⟩, u => by subst e; exact ⟨_, _, rfl, u, t⟩
  | y :: ys, _, i + 1, _, _, ⟨v, r, e, q, t⟩, u => by subst e; exact ⟨v, _, rfl, q, Reps.set i t u⟩
theorem Reps.drop : ∀ {xs : List PV} {vs : List V} (n : Nat), Reps K ρ H xs vs → Reps K ρ H (xs.drop n) (vs.drop n)
  | _, _, 0, q => q
  | [], _, n + 1, q => by cases q; exact rfl
  | y :: ys, _, n + 1, ⟨v, r, e, q, t⟩ => by subst e; exact Reps.drop n t
theorem Reps.take : ∀ {xs : List PV} {vs : List V} (n : Nat), Reps K ρ H xs vs → Reps K ρ H (xs.take n) (vs.take n)
  | _, _, 0, q => by rw [List.take_zero, List.take_zero]; exact rfl
  | [], _, n + 1, q => by cases q; exact rfl
  | y :: ys, _, n + 1, ⟨v, r, e, q, t⟩ => by subst e; exact ⟨v, _, rfl, q, Reps.take n t⟩
theorem Reps.eraseIdx : ∀ {xs : List PV} {vs : List V} (n : Nat), Reps K ρ H xs vs → Reps K ρ H (xs.eraseIdx n) (vs.eraseIdx n)
  | [], _, _, q => by cases q; exact rfl
  | y :: ys, _, 0, ⟨v, r, e, q, t⟩ => by subst e; exact t
  | y :: ys, _, n + 1, ⟨v, r, e, q, t⟩ => by subst e; exact ⟨v, _, rfl, q, Reps.eraseIdx n t⟩
theorem Reps.dropLast {xs : List PV} {vs : List V} (q : Reps K ρ H xs vs) : Reps K ρ H xs.dropLast vs.dropLast := by
  rw [List.dropLast_eq_take, List.dropLast_eq_take, q.len]
  exact q.take _
theorem Reps.cut {xs : List PV} {vs : List V} (q : Reps K ρ H xs vs) (lo hi : Option Int) : Reps K ρ H (cutL xs lo hi) (cutV vs lo hi) := by
  unfold cutL cutV sIx
  rw [q.len]
  exact (q.drop _).take _
theorem Reps.nil_iff {xs : List PV} {vs : List V} (q : Reps K ρ H xs vs) : xs.isEmpty = vs.isEmpty := by
  cases xs with
  | nil => cases q; rfl
  | cons x r => obtain ⟨v, r', e, _⟩ := q; subst e; rfl
theorem Reps.rep : ∀ {xs : List PV} {vs : List V} (n : Nat), Reps K ρ H xs vs → Reps K ρ H (List.replicate n xs).flatten (List.replicate n vs).flatten
  | _, _, 0, _ => rfl
  | _, _, n + 1, q => by rw [List.replicate_succ, List.replicate_succ, List.flatten_cons, List.flatten_cons]; exact q.app (Reps.rep n q)
theorem Reps.rev : ∀ {xs : List PV} {vs : List V}, Reps K ρ H xs vs → Reps K ρ H xs.reverse vs.reverse
  | [], _, q => by cases q; exact rfl
  | x :: xs, _, ⟨v, r, e, q, t⟩ => by
    subst e
    rw [List.reverse_cons, List.reverse_cons]
    exact (Reps.rev t).app (Reps.one q)
theorem reps_map {α : Type} {f : α → PV} {g : α → V} (hf : ∀ a, Rep K ρ H (f a) (g a)) : ∀ l : List α, Reps K ρ H (l.map f) (l.map g)
  | [] => rfl
  | a :: r => ⟨_, _, rfl, hf a, reps_map hf r⟩
theorem Reps.ints : ∀ {xs : List PV} {vs : List V} {ns : List Int}, Reps K ρ H xs vs → intsOf xs = some ns → vs = ns.map V.int
  | [], _, ns, q, e => by cases q; simp [intsOf] at e; subst e; rfl
  | x :: xs, _, ns, ⟨v, r, e1, q, t⟩, e => by
    subst e1
    cases x with
    | int i =>
      cases h : intsOf xs with
      | none => simp [intsOf, h] at e
      | some ms =>
        simp [intsOf, h] at e
        subst e
        obtain rfl := q
        rw [Reps.ints t h]
        rfl
    | _ => simp [intsOf] at e
theorem Reps.bools : ∀ {xs : List PV} {vs : List V} {ns : List Bool}, Reps K ρ H xs vs → boolsOf xs = some ns → vs = ns.map V.bl
  | [], _, ns, q, e => by cases q; simp [boolsOf] at e; subst e; rfl
  | x :: xs, _, ns, ⟨v, r, e1, q, t⟩, e => by
    subst e1
    cases x with
    | bl i =>
      cases h : boolsOf xs with
      | none => simp [boolsOf, h] at e
      | some ms =>
        simp [boolsOf, h] at e
        subst e
        obtain rfl := q
        rw [Reps.bools t h]
        rfl
    | _ => simp [boolsOf] at e
end
/-! ### data -/
section
mutual
theorem dat_depth (h : Hep) : ∀ (n : Nat) (x : PV) (d : PyData), dat h n x = some d → d.depth ≤ n := fun n x d e => by
  cases x with
  | non => cases n <;> (cases e; exact Nat.zero_le _)
  | bl b => cases n <;> (cases e; exact Nat.zero_le _)
  | int b => cases n <;> (cases e; exact Nat.zero_le _)
  | str b => cases n <;> (cases e; exact Nat.zero_le _)
  | exc c ns vs => cases n <;> cases e
  | tup xs =>
    cases n with
    | zero => cases e
    | succ n =>
      cases q : datAll (dat h n) xs with
      | none => rw [dat, q] at e; cases e
      | some ds => rw [dat, q] at e; cases e; exact seq_depth h n xs ds q
  | itp xs =>
    cases n with
    | zero => cases e
    | succ n =>
      cases q : datAll (dat h n) xs with
      | none => rw [dat, q] at e; cases e
      | some ds => rw [dat, q] at e; cases e; exact seq_depth h n xs ds q
  | ils xs =>
    cases n with
    | zero => cases e
    | succ n =>
      cases q : datAll (dat h n) xs with
      | none => rw [dat, q] at e; cases e
      | some ds => rw [dat, q] at e; cases e; exact seq_depth h n xs ds q
  | ref r =>
    cases n with
    | zero => cases e
    | succ n =>
      rw [dat] at e
      split at e
      · rename_i xs eq
        cases q : datAll (dat h n) xs with
        | none => rw [q] at e; cases e
        | some ds => rw [q] at e; cases e; exact seq_depth h n xs ds q
      · cases e
termination_by n => (n, 0)
theorem seq_depth (h : Hep) (n : Nat) : ∀ (xs : List PV) (ds : List PyData), datAll (dat h n) xs = some ds → PyData.depthAll ds + 1 ≤ n + 1
  | [], ds, e => by cases e; simp [PyData.depthAll]
  | x :: xs, ds, e => by
    cases q1 : dat h n x with
    | none => rw [datAll, q1] at e; cases e
    | some d =>
      cases q2 : datAll (dat h n) xs with
      | none => rw [datAll, q1, q2] at e; cases e
      | some ds' =>
        rw [datAll, q1, q2] at e
        cases e
        have a2 := dat_depth h n x d q1
        have b2 := seq_depth h n xs ds' q2
        simp only [PyData.depthAll]
        omega
termination_by xs => (n, xs.length + 1)
end
theorem dat_shaped {h : Hep} {n : Nat} {x : PV} {d : PyData} (l : n ≤ 64) (e : dat h n x = some d) (c : d.canLay0 = true) : SeqAt.shaped d = true := by
  have b := dat_depth h n x d e
  exact Bool.and_eq_true_iff.mpr ⟨c, decide_eq_true (by omega)⟩
end
end Z

/-! ZsB: Z's expressions are sound: what wE asks is what the hand layer's readings ask. -/
namespace Z
open PySem L2

def XR (K : PySem.W.Frag) (mg : Str → Option Value) (ρ : List Addr) (H : Hp) (x : XV) (cls : Value) (d : Option Addr) : Prop :=
  ∃ C : Addr, PySem.W.nsIn K mainGlobals x.cls = some (some (.ref C)) ∧ cls = .ref C ∧ ((x.fs = [] ∧ d = none) ∨ ∃ (dd : Addr) (gs : List (Str × V)), d = some dd ∧ H dd = some (.xd gs) ∧ dd ∉ ρ ∧ RepF K ρ H x.fs gs)

def KQok (X : Cx) (ρ : List Addr) (H : Hp) (F : KQ) (Q : VK) : Prop :=
  ∀ (r : PV) (h' : Hep) (ρ' : List Addr) (H' : Hp) (v : V), Nx ρ H ρ' H' → HR X.K X.mg ρ' h' H' → Rep X.K ρ' H' r v → F r h' → Q v H'
def KXok (X : Cx) (W : WX) (σ : St) (ρ : List Addr) (H : Hp) (E : KX) : Prop :=
  ∀ (x : XV) (h' : Hep) (ρ' : List Addr) (H' : Hp) (cls : Value) (d : Option Addr), Nx ρ H ρ' H' → HR X.K X.mg ρ' h' H' → XR X.K X.mg ρ' H' x cls d → E x h' → W cls d σ H'
theorem KQok.nx {X : Cx} {ρ ρ' : List Addr} {H H' : Hp} {F : KQ} {Q : VK} (k : KQok X ρ H F Q) (n : Nx ρ H ρ' H') : KQok X ρ' H' F Q := fun r h1 ρ1 H1 v m => k r h1 ρ1 H1 v (n.trans m)
theorem KXok.nx {X : Cx} {W : WX} {σ : St} {ρ ρ' : List Addr} {H H' : Hp} {E : KX} (k : KXok X W σ ρ H E) (n : Nx ρ H ρ' H') : KXok X W σ ρ' H' E := fun x h1 ρ1 H1 c d m => k x h1 ρ1 H1 c d (n.trans m)
theorem KXok.no {X : Cx} {W : WX} {σ : St} {ρ : List Addr} {H : Hp} : KXok X W σ ρ H noX := fun _ _ _ _ _ _ _ _ _ z => z.elim

structure SR (X : Cx) (ρ : List Addr) (σz : Env) (h : Hep) (σ : St) (H : Hp) : Prop where
  hr : HR X.K X.mg ρ h H
  len : σz.length = σ.length
  sl : ∀ (i : Nat) (x : PV), σz[i]? = some (some x) → ∃ v, σ[i]? = some (some v) ∧ Rep X.K ρ H x v
theorem SR.nx {X : Cx} {ρ ρ' : List Addr} {σz : Env} {h h' : Hep} {σ : St} {H H' : Hp} (s : SR X ρ σz h σ H) (n : Nx ρ H ρ' H') (r : HR X.K X.mg ρ' h' H') : SR X ρ' σz h' σ H' :=
  ⟨r, s.len, fun i x e => let ⟨v, e1, q⟩ := s.sl i x e; ⟨v, e1, q.nx s.hr n⟩⟩
theorem SR.set {X : Cx} {ρ : List Addr} {σz : Env} {h : Hep} {σ : St} {H : Hp} (s : SR X ρ σz h σ H) (i : Nat) {x : PV} {v : V} (q : Rep X.K ρ H x v) : SR X ρ (σz.set i (some x)) h (σ.set i (some v)) H := by
  refine ⟨s.hr, by rw [List.length_set, List.length_set]; exact s.len, fun j y e => ?_⟩
  by_cases hj : i = j
  · subst hj
    by_cases hl : i < σz.length
    · rw [List.getElem?_set_self hl] at e
      cases e
      exact ⟨v, List.getElem?_set_self (by rw [← s.len]; exact hl), q⟩
    · rw [List.getElem?_eq_none (by rw [List.length_set]; omega)] at e
      cases e
  · rw [List.getElem?_set_ne hj] at e ⊢
    exact s.sl j y e
theorem SR.wipe {X : Cx} {ρ : List Addr} {σz : Env} {h : Hep} {σ : St} {H : Hp} (s : SR X ρ σz h σ H) : ∀ vs : List Nat, SR X ρ (wipeZ σz vs) h (L2.wipe σ vs) H
  | [] => s
  | v :: vs => by
    have ih := SR.wipe s vs
    show SR X ρ ((wipeZ σz vs).set v none) h ((L2.wipe σ vs).set v none) H
    refine ⟨s.hr, by rw [List.length_set, List.length_set]; exact ih.len, fun j y e => ?_⟩
    by_cases hj : v = j
    · subst hj
      by_cases hl : v < (wipeZ σz vs).length
      · rw [List.getElem?_set_self hl] at e
        cases e
      · rw [List.getElem?_eq_none (by rw [List.length_set]; omega)] at e
        cases e
    · rw [List.getElem?_set_ne hj] at e ⊢
      exact ih.sl j y e

/-! ### readings made of Z's -/
abbrev WE := Env → Hep → KQ → KX → Prop
def LE (X : Cx) (W : WX) (w : WE) : TE := fun σ H Q => ∃ (ρ : List Addr) (σz : Env) (h : Hep) (F : KQ) (E : KX), SR X ρ σz h σ H ∧ KQok X ρ H F Q ∧ KXok X W σ ρ H E ∧ w σz h F E
def LT (X : Cx) (W : WX) (w : Env → Hep → KB → KX → Prop) : TT := fun σ H Q => ∃ (ρ : List Addr) (σz : Env) (h : Hep) (F : KB) (E : KX), SR X ρ σz h σ H ∧
  (∀ (b : Bool) (h' : Hep) (ρ' : List Addr) (H' : Hp), Nx ρ H ρ' H' → HR X.K X.mg ρ' h' H' → F b h' → Q b H') ∧ KXok X W σ ρ H E ∧ w σz h F E
def LA (X : Cx) (W : WX) (w : Env → Hep → (List PV → Hep → Prop) → KX → Prop) : TA := fun σ H Q => ∃ (ρ : List Addr) (σz : Env) (h : Hep) (F : List PV → Hep → Prop) (E : KX), SR X ρ σz h σ H ∧
  (∀ (xs : List PV) (h' : Hep) (ρ' : List Addr) (H' : Hp) (vs : List V), Nx ρ H ρ' H' → HR X.K X.mg ρ' h' H' → Reps X.K ρ' H' xs vs → F xs h' → Q vs H') ∧ KXok X W σ ρ H E ∧ w σz h F E
def LO (X : Cx) (W : WX) (w : Env → Hep → (Option Int → Hep → Prop) → KX → Prop) : TO := fun σ H Q => ∃ (ρ : List Addr) (σz : Env) (h : Hep) (F : Option Int → Hep → Prop) (E : KX), SR X ρ σz h σ H ∧
  (∀ (o : Option Int) (h' : Hep) (ρ' : List Addr) (H' : Hp), Nx ρ H ρ' H' → HR X.K X.mg ρ' h' H' → F o h' → Q o H') ∧ KXok X W σ ρ H E ∧ w σz h F E

section
variable {X : Cx} {W : WX} {e a b c : Expr} {es : List Expr}
theorem pe_imp {t t' : TE} (h : PE X e t) (k : ∀ σ H Q, t' σ H Q → t σ H Q) : PE X e t' := ⟨fun pins s σ H Q I q => h.run pins s σ H Q I (k _ _ _ q)⟩
theorem pt_imp {t t' : TT} (h : PT X e t) (k : ∀ σ H Q, t' σ H Q → t σ H Q) : PT X e t' := ⟨fun pins s σ H Q I q => h.run pins s σ H Q I (k _ _ _ q)⟩
theorem pw_imp {t t' : TT} (h : PW X e t) (k : ∀ σ H Q, t' σ H Q → t σ H Q) : PW X e t' := ⟨fun wh pins s σ H Q I q => h.run wh pins s σ H Q I (k _ _ _ q)⟩
theorem pa_imp {t t' : TA} (h : PA X es t) (k : ∀ σ H Q, t' σ H Q → t σ H Q) : PA X es t' := ⟨fun pos pins s σ H Q I q => h.run pos pins s σ H Q I (k _ _ _ q)⟩

/-! ### constants and names -/
theorem ze_var {i : Nat} {x : Str} {pos : Pos} (hN : X.N[i]? = some x) (hv : Vis X.env.scope x) (hd : (x == ("__debug__" : Str)) = false) (hcd : (x == ("__classdict__" : Str)) = false) (Γ : List Spec) : PE X (.Name x pos) (LE X W (wE Γ (.var i))) := by
  refine pe_imp (pe_var hN hv hd hcd) fun σ H Q ⟨ρ, σz, h, F, E, s, kq, kx, w⟩ => ?_
  unfold wE at w
  split at w
  · rename_i v e
    obtain ⟨u, e1, q⟩ := s.sl i v e
    exact ⟨u, e1, kq v h ρ H u Nx.refl s.hr q w⟩
  · exact w.elim
theorem ze_c {t : V} {v : PV} {Γ : List Spec} {x : Ex} (he : PE X e (tC t)) (hw : ∀ σz h F E, wE Γ x σz h F E → F v h) (hr : ∀ ρ H, Rep X.K ρ H v t) : PE X e (LE X W (wE Γ x)) :=
  pe_imp he fun σ H Q ⟨ρ, σz, h, F, E, s, kq, kx, w⟩ => kq v h ρ H t Nx.refl s.hr (hr ρ H) (hw σz h F E w)

/-! ### two in a row -/
theorem le_two {wa : WE} {wb : WE} {op : PV → PV → Hep → KQ → Prop} {r : R2}
    (ho : ∀ (ρ : List Addr) (h : Hep) (H : Hp) (x y : PV) (v u : V) (F : KQ) (Q : VK), HR X.K X.mg ρ h H → Rep X.K ρ H x v → Rep X.K ρ H y u → KQok X ρ H F Q → op x y h F → r v u H Q)
    (σ : St) (H : Hp) (Q : VK) (q : LE X W (fun σz h F E => wa σz h (fun x h1 => wb σz h1 (fun y h2 => op x y h2 F) E) E) σ H Q) : tOp r (LE X W wa) (LE X W wb) σ H Q := by
  obtain ⟨ρ, σz, h, F, E, s, kq, kx, w⟩ := q
  refine ⟨ρ, σz, h, _, E, s, fun x h1 ρ1 H1 v n1 r1 p1 w1 => ?_, kx, w⟩
  refine ⟨ρ1, σz, h1, _, E, s.nx n1 r1, fun y h2 ρ2 H2 u n2 r2 p2 w2 => ?_, kx.nx n1, w1⟩
  exact ho ρ2 h2 H2 x y v u F Q r2 (p1.nx r1 n2) p2 (kq.nx (n1.trans n2)) w2

/-! ### binary operators, by values -/
theorem big_eq : big = sizeLine := sizeLine_eq.symm
/-- what is left where values are known -/
def LR2 (X : Cx) (op : PV → PV → Hep → KQ → Prop) : R2 := fun v u H Q => ∃ (ρ : List Addr) (h : Hep) (x y : PV) (F : KQ), HR X.K X.mg ρ h H ∧ Rep X.K ρ H x v ∧ Rep X.K ρ H y u ∧ KQok X ρ H F Q ∧ op x y h F
theorem opr_imp {f : Value → Value → Sem Value} {r r' : R2} (h : OpR X f r) (k : ∀ v u H Q, r' v u H Q → r v u H Q) : OpR X f r' := fun pins s σ H x y v u Q I rx ry q => h pins s σ H x y v u Q I rx ry (k _ _ _ _ q)
theorem getL_some {h : Hep} {r : Nat} {F : List PV → Prop} (q : getL h r F) : ∃ xs, h[r]? = some (.lst xs) ∧ F xs := by
  unfold getL at q
  split at q
  · exact ⟨_, by assumption, q⟩
  · exact q.elim
/-- a fresh list -/
theorem KQok.newL {ρ : List Addr} {h : Hep} {H : Hp} {F : KQ} {Q : VK} (kq : KQok X ρ H F Q) (r : HR X.K X.mg ρ h H) {xs : List PV} {vs : List V} (q : Reps X.K ρ H xs vs) (w : F (.ref h.length) (h ++ [.lst xs])) {p : Addr} (hp : H p = none) : Q (.ref p) (upd H p (.lst vs)) := by
  have al := fun (u : HO) => (r.tupl hp u).2
  have n : Nx ρ H (ρ ++ [p]) (upd H p (.lst vs)) := ⟨⟨[p], rfl⟩, fun a w q _ => by rw [upd_ne (ne_of_none q hp)]; exact q, fun a q z => by
    rcases List.mem_append.mp q with q | q
    · exact absurd q z
    · rw [List.mem_singleton.mp q]; exact hp⟩
  obtain ⟨r1, n1⟩ := r.alloc hp (u := .lst vs) (o := .lst xs) ⟨vs, upd_same, q.nx r n⟩
  exact kq (.ref h.length) _ _ _ _ n1 r1 ⟨p, by rw [← r.len]; simp, rfl⟩ w
/-- a fresh tuple -/
theorem KQok.newT {ρ : List Addr} {h : Hep} {H : Hp} {F : KQ} {Q : VK} (kq : KQok X ρ H F Q) (r : HR X.K X.mg ρ h H) {xs : List PV} {vs : List V} (q : Reps X.K ρ H xs vs) (w : F (.tup xs) h) {p : Addr} (hp : H p = none) : Q (.ref p) (upd H p (.tup vs)) := by
  obtain ⟨r1, n1⟩ := r.tupl hp (.tup vs)
  exact kq (.tup xs) _ _ _ _ n1 r1 ⟨p, vs, rfl, upd_same, q.nx r n1⟩ w
theorem KQok.newW {ρ : List Addr} {h : Hep} {H : Hp} {F : KQ} {Q : VK} (kq : KQok X ρ H F Q) (r : HR X.K X.mg ρ h H) {xs : List PV} {vs : List V} (q : Reps X.K ρ H xs vs) {o : Obj} (d : o.dict = none) (w : F (.itp xs) h) {p : Addr} (hp : H p = none) : Q (.ref p) (upd H p (.frz o (.tup vs))) := by
  obtain ⟨r1, n1⟩ := r.tupl hp (.frz o (.tup vs))
  exact kq (.itp xs) _ _ _ _ n1 r1 ⟨p, vs, rfl, .inl ⟨o, d, upd_same⟩, q.nx r n1⟩ w
theorem KQok.here {ρ : List Addr} {h : Hep} {H : Hp} {F : KQ} {Q : VK} (kq : KQok X ρ H F Q) (r : HR X.K X.mg ρ h H) {x : PV} {v : V} (q : Rep X.K ρ H x v) (w : F x h) : Q v H := kq _ _ _ _ _ Nx.refl r q w
theorem KQok.int {ρ : List Addr} {h : Hep} {H : Hp} {F : KQ} {Q : VK} (kq : KQok X ρ H F Q) (r : HR X.K X.mg ρ h H) {i : Int} (w : F (.int i) h) : Q (.int i) H := kq.here r (x := .int i) rfl w
theorem KQok.str {ρ : List Addr} {h : Hep} {H : Hp} {F : KQ} {Q : VK} (kq : KQok X ρ H F Q) (r : HR X.K X.mg ρ h H) {i : Str} (w : F (.str i) h) : Q (.str i) H := kq.here r (x := .str i) rfl w
theorem KQok.bl {ρ : List Addr} {h : Hep} {H : Hp} {F : KQ} {Q : VK} (kq : KQok X ρ H F Q) (r : HR X.K X.mg ρ h H) {i : Bool} (w : F (.bl i) h) : Q (.bl i) H := kq.here r (x := .bl i) rfl w
theorem KQok.non {ρ : List Addr} {h : Hep} {H : Hp} {F : KQ} {Q : VK} (kq : KQok X ρ H F Q) (r : HR X.K X.mg ρ h H) (w : F .non h) : Q .non H := kq.here r (x := .non) rfl w

theorem or_bin (o : Operator) : OpR X (binaryOp o) (LR2 X (binW o)) := by
  intro pins s σ H x y v u Q I rx ry q
  obtain ⟨ρ, h, x', y', F, r, p1, p2, kq, w⟩ := q
  unfold binW at w
  split at w
  · rename_i i j
    obtain rfl := p1
    obtain rfl := p2
    cases o with
    | Add => exact op_add pins s σ H _ _ v u Q I rx ry ⟨i, j, rfl, rfl, kq.int r w⟩
    | Sub => exact op_sub pins s σ H _ _ v u Q I rx ry ⟨i, j, rfl, rfl, kq.int r w⟩
    | Mult =>
      obtain ⟨c, w⟩ : mulOk i j ∧ F (.int (i * j)) h := w
      have q := kq.int r w
      rcases c with c | c | c
      · exact op_mul pins s σ H _ _ v u Q I rx ry ⟨i, j, rfl, rfl, .inl c, q⟩
      · exact op_mul pins s σ H _ _ v u Q I rx ry ⟨i, j, rfl, rfl, .inr c, q⟩
      · exact op_mulW pins s σ H _ _ v u Q I rx ry ⟨i, j, rfl, rfl, c, q⟩
    | FloorDiv =>
      obtain ⟨c, w⟩ : divOk j ∧ F (.int (i / j)) h := w
      exact op_fdivW pins s σ H _ _ v u Q I rx ry ⟨i, j, rfl, rfl, c, kq.int r w⟩
    | Mod =>
      obtain ⟨c, w⟩ : 0 < j ∧ F (.int (i % j)) h := w
      exact op_mod pins s σ H _ _ v u Q I rx ry ⟨i, j, rfl, rfl, c, kq.int r w⟩
    | Pow =>
      obtain ⟨c, w⟩ : powOk i j ∧ F (.int (i ^ j.toNat)) h := w
      exact op_pow pins s σ H _ _ v u Q I rx ry ⟨i, j, rfl, rfl, c, kq.int r w⟩
    | LShift =>
      obtain ⟨c, w⟩ : powOk i j ∧ F (.int (i * 2 ^ j.toNat)) h := w
      exact op_shl pins s σ H _ _ v u Q I rx ry ⟨i, j, rfl, rfl, c, kq.int r w⟩
    | RShift =>
      obtain ⟨c, w⟩ : 0 ≤ j ∧ F (.int (i / 2 ^ j.toNat)) h := w
      exact op_shr pins s σ H _ _ v u Q I rx ry ⟨i, j, rfl, rfl, c, kq.int r w⟩
    | BitAnd => exact op_and pins s σ H _ _ v u Q I rx ry ⟨i, j, rfl, rfl, kq.int r w⟩
    | _ => exact False.elim w
  · rename_i i j
    obtain ⟨rfl, z, w⟩ := w
    obtain rfl := p1
    obtain rfl := p2
    exact op_add_str pins s σ H _ _ v u Q I rx ry ⟨i, j, rfl, rfl, by rw [← big_eq]; exact z, kq.str r w⟩
  · rename_i z k
    obtain ⟨rfl, k0, k1, hl, w⟩ := w
    obtain rfl := p1
    obtain rfl := p2
    exact Zh.op_rep_str pins s σ H _ _ v u Q I rx ry ⟨z, k, rfl, rfl, k0, k1, hl, kq.str r w⟩
  · rename_i xs ys
    obtain ⟨rfl, z, w⟩ := w
    obtain ⟨a1, vs, rfl, t1, q1⟩ := p1
    obtain ⟨a2, us, rfl, t2, q2⟩ := p2
    refine op_catA pins s σ H _ _ v u Q I rx ry ⟨a1, a2, vs, us, rfl, rfl, t1.sq, t2.sq, by rw [← big_eq, ← q1.len, ← q2.len]; exact z, fun z => ?_, fun _ z => ?_, fun _ _ p hp => ?_⟩
    · subst z
      have : xs = [] := List.length_eq_zero_iff.mp q1.len
      subst this
      exact kq.here r (x := .tup ys) ⟨a2, us, rfl, t2, q2⟩ w
    · subst z
      have : ys = [] := List.length_eq_zero_iff.mp q2.len
      subst this
      rw [List.append_nil] at w
      exact kq.here r (x := .tup xs) ⟨a1, vs, rfl, t1, q1⟩ w
    · exact kq.newT r (q1.app q2) w hp
  · rename_i xs ys
    obtain ⟨rfl, z, w⟩ := w
    obtain ⟨a1, vs, rfl, t1, q1⟩ := p1
    obtain ⟨a2, us, rfl, t2, q2⟩ := p2
    refine Zh.op_catW pins s σ H _ _ v u Q I rx ry ⟨a1, a2, vs, us, rfl, rfl, t1.sq, t2.sq, by rw [← big_eq, ← q1.len, ← q2.len]; exact z, fun z => ?_, fun _ z => ?_, fun _ _ p o d hp => ?_⟩
    · subst z
      have : xs = [] := List.length_eq_zero_iff.mp q1.len
      subst this
      exact kq.here r (x := .itp ys) ⟨a2, us, rfl, t2, q2⟩ w
    · subst z
      have : ys = [] := List.length_eq_zero_iff.mp q2.len
      subst this
      rw [List.append_nil] at w
      exact kq.here r (x := .itp xs) ⟨a1, vs, rfl, t1, q1⟩ w
    · exact kq.newW r (q1.app q2) d w hp
  · rename_i xs k
    obtain ⟨rfl, ne, k1, k2, l, w⟩ := w
    obtain ⟨a1, vs, rfl, t1, q1⟩ := p1
    obtain rfl := p2
    refine Zh.op_repW pins s σ H _ _ v u Q I rx ry ⟨a1, k, vs, rfl, rfl, t1.sq, fun z => ne ?_, k1, k2, by rw [← q1.len]; exact l, fun z => ?_, fun p o d hp => ?_⟩
    · subst z
      exact List.length_eq_zero_iff.mp q1.len
    · subst z
      rw [show (List.replicate (1 : Int).toNat xs).flatten = xs from List.append_nil xs] at w
      exact kq.here r (x := .itp xs) ⟨a1, vs, rfl, t1, q1⟩ w
    · exact kq.newW r (q1.rep _) d w hp
  · rename_i i j
    obtain ⟨rfl, w⟩ := w
    obtain ⟨xs, e1, w⟩ := getL_some w
    obtain ⟨ys, e2, z, w⟩ := getL_some w
    obtain ⟨a1, f1, rfl⟩ := p1
    obtain ⟨a2, f2, rfl⟩ := p2
    obtain ⟨b1, vs, g1, k1, q1⟩ := r.lst e1
    obtain ⟨b2, us, g2, k2, q2⟩ := r.lst e2
    rw [f1] at g1; cases g1
    rw [f2] at g2; cases g2
    refine op_cat pins s σ H _ _ v u Q I rx ry ⟨a1, a2, vs, us, rfl, rfl, k1, k2, by rw [← big_eq, ← q1.len, ← q2.len]; exact z, fun p hp => ?_⟩
    exact kq.newL r (q1.app q2) w hp
  · rename_i i k
    obtain ⟨rfl, w⟩ := w
    obtain ⟨xs, e1, z1, z2, z, w⟩ := getL_some w
    obtain ⟨a1, f1, rfl⟩ := p1
    obtain rfl := p2
    obtain ⟨b1, vs, g1, k1, q1⟩ := r.lst e1
    rw [f1] at g1; cases g1
    refine op_rep pins s σ H _ _ v u Q I rx ry ⟨a1, k, vs, rfl, rfl, k1, z1, z2, by rw [← big_eq, ← q1.len]; exact z, fun p hp => ?_⟩
    exact kq.newL r (q1.rep _) w hp
  · exact w.elim
end
end Z

/-! ZsC: operations by values: truth, ==, in, order, subscripts, slices, stores, dicts. -/
namespace Z
open PySem L2
section
variable {X : Cx} {W : WX} {ρ ρ' : List Addr} {h h' : Hep} {H H' : Hp} {x y z : PV} {v u w : V}

/-! ### truth -/
theorem tru_of {K : Bool → Prop} (r : HR X.K X.mg ρ h H) (p : Rep X.K ρ H x v) (q : truW h x K) : ∃ k, TruV X.K v H k ∧ K k := by
  cases x with
  | non => obtain rfl := p; exact ⟨false, rfl, q⟩
  | bl b => obtain rfl := p; exact ⟨b, rfl, q⟩
  | int i => obtain rfl := p; exact ⟨_, rfl, q⟩
  | exc c ns xs => exact q.elim
  | str s =>
    obtain rfl := p
    obtain ⟨z, q⟩ : s.length ≤ big ∧ K ((s.length : Int) != 0) := q
    exact ⟨_, ⟨by rw [← big_eq]; exact z, rfl⟩, q⟩
  | tup xs =>
    obtain ⟨a, vs, rfl, t, ps⟩ := p
    exact ⟨_, .inr (.inl ⟨vs, t.sq, rfl⟩), by rw [← ps.nil_iff]; exact q⟩
  | itp xs =>
    obtain ⟨a, vs, rfl, t, ps⟩ := p
    exact ⟨_, .inr (.inl ⟨vs, t.sq, rfl⟩), by rw [← ps.nil_iff]; exact q⟩
  | ils xs =>
    obtain ⟨a, vs, rfl, t, ps⟩ := p
    exact ⟨_, .inl ⟨vs, t.sq, rfl⟩, by rw [← ps.nil_iff]; exact q⟩
  | ref i =>
    obtain ⟨xs, e, q⟩ := getL_some (show getL h i fun xs => K (!xs.isEmpty) from q)
    obtain ⟨a, e1, rfl⟩ := p
    obtain ⟨b, vs, e2, k, ps⟩ := r.lst e
    rw [e1] at e2; cases e2
    exact ⟨_, .inl ⟨vs, SqL.of k, rfl⟩, by rw [← ps.nil_iff]; exact q⟩

/-! ### data -/
theorem dat_all (f : PV → Option PyData) (hf : ∀ (x : PV) (v : V) (d : PyData), Rep X.K ρ H x v → f x = some d → Dp X.K H v d) :
    ∀ (xs : List PV) (vs : List V) (ds : List PyData), Reps X.K ρ H xs vs → datAll f xs = some ds → DpAll X.K H vs ds
  | [], vs, ds, p, e => by
    cases p
    simp only [datAll, Option.some.injEq] at e
    subst e
    exact .nil
  | x :: xs, vs, ds, ⟨v, r, e1, p, ps⟩, e => by
    subst e1
    unfold datAll at e
    split at e
    · rename_i d ds' h1 h2
      cases e
      exact .cons (hf x v d p h1) (dat_all f hf xs r ds' ps h2)
    · cases e
theorem dat_dp (r : HR X.K X.mg ρ h H) : ∀ (n : Nat) (x : PV) (v : V) (d : PyData), Rep X.K ρ H x v → dat h n x = some d → Dp X.K H v d := by
  intro n
  induction n with
  | zero =>
    intro x v d p e
    cases x with
    | non => obtain rfl := p; cases e; exact .non
    | bl b => obtain rfl := p; cases e; exact .bl b
    | int i => obtain rfl := p; cases e; exact .int i
    | str s => obtain rfl := p; cases e; exact .str s
    | _ => cases e
  | succ n ih =>
    intro x v d p e
    cases x with
    | non => obtain rfl := p; cases e; exact .non
    | bl b => obtain rfl := p; cases e; exact .bl b
    | int i => obtain rfl := p; cases e; exact .int i
    | str s => obtain rfl := p; cases e; exact .str s
    | exc c ns xs => cases e
    | tup xs =>
      obtain ⟨a, vs, rfl, t, ps⟩ := p
      have e' : (datAll (dat h n) xs).map PyData.tuple = some d := e
      cases q : datAll (dat h n) xs with
      | none => rw [q] at e'; cases e'
      | some ds =>
        rw [q] at e'
        cases e'
        exact .tup t.sq (dat_all _ ih xs vs ds ps q)
    | itp xs =>
      obtain ⟨a, vs, rfl, t, ps⟩ := p
      have e' : (datAll (dat h n) xs).map PyData.tuple = some d := e
      cases q : datAll (dat h n) xs with
      | none => rw [q] at e'; cases e'
      | some ds =>
        rw [q] at e'
        cases e'
        exact .tup t.sq (dat_all _ ih xs vs ds ps q)
    | ils xs =>
      obtain ⟨a, vs, rfl, t, ps⟩ := p
      have e' : (datAll (dat h n) xs).map PyData.list = some d := e
      cases q : datAll (dat h n) xs with
      | none => rw [q] at e'; cases e'
      | some ds =>
        rw [q] at e'
        cases e'
        exact .lst t.sq (dat_all _ ih xs vs ds ps q)
    | ref i =>
      have e' : (match h[i]? with | some (.lst xs) => (datAll (dat h n) xs).map PyData.list | _ => none) = some d := e
      split at e'
      · rename_i xs hi
        obtain ⟨a, e1, rfl⟩ := p
        obtain ⟨b, vs, e2, k, ps⟩ := r.lst hi
        rw [e1] at e2; cases e2
        cases q : datAll (dat h n) xs with
        | none => rw [q] at e'; cases e'
        | some ds =>
          rw [q] at e'
          cases e'
          exact .lst (SqL.of k) (dat_all _ ih xs vs ds ps q)
      · cases e'

/-! ### dicts -/
theorem keyOf_one {k : At} (e : keyOf x = some (.one k)) (p : Rep X.K ρ H x v) : v = kV k := by
  cases x with
  | int i => simp [keyOf] at e; subst e; exact p
  | str s => simp [keyOf] at e; subst e; exact p
  | tup xs =>
    simp only [keyOf] at e
    cases q : keyAtoms xs with
    | none => rw [q] at e; cases e
    | some ks => rw [q] at e; cases e
  | _ => simp [keyOf] at e
theorem keyAtoms_rep : ∀ {xs : List PV} {vs : List V} {ks : List At}, keyAtoms xs = some ks → Reps X.K ρ H xs vs → vs = ks.map kV
  | [], vs, ks, e, p => by cases p; simp [keyAtoms] at e; subst e; rfl
  | x :: xs, vs, ks, e, ⟨v, r, e1, p, ps⟩ => by
    subst e1
    unfold keyAtoms at e
    split at e
    · rename_i k ks' h1 h2
      cases e
      rw [keyAtoms_rep h2 ps]
      cases x with
      | int i => simp [keyAtom] at h1; subst h1; obtain rfl := p; rfl
      | str s => simp [keyAtom] at h1; subst h1; obtain rfl := p; rfl
      | _ => simp [keyAtom] at h1
    · cases e
theorem keyOf_many {ks : List At} (e : keyOf x = some (.many ks)) (p : Rep X.K ρ H x v) : ∃ b, v = .ref b ∧ H b = some (.tup (ks.map kV)) := by
  cases x with
  | tup xs =>
    simp only [keyOf] at e
    cases q : keyAtoms xs with
    | none => rw [q] at e; cases e
    | some js =>
      rw [q] at e
      cases e
      obtain ⟨a, vs, rfl, t, ps⟩ := p
      rw [keyAtoms_rep q ps] at t
      exact ⟨a, rfl, t⟩
  | int i => simp [keyOf] at e
  | str s => simp [keyOf] at e
  | _ => simp [keyOf] at e
theorem valV_cons {κ : Type} [DecidableEq κ] (j k : κ) (v : V) (r : List (κ × V)) : valV ((j, v) :: r) k = if j = k then some v else valV r k := by
  by_cases e : j = k
  · rw [if_pos e]; exact valV_pos (p := (j, v)) e
  · rw [if_neg e]; exact valV_neg (p := (j, v)) e
theorem d1_get : ∀ {kvs : List (Ky × PV)} {ws : List (Key × V)} (k : Key), RepD1 X.K ρ H kvs ws → (dget (.one k) kvs = none ∧ valV ws k = none) ∨ ∃ x v, dget (.one k) kvs = some x ∧ valV ws k = some v ∧ Rep X.K ρ H x v
  | [], _, k, q => by cases q; exact .inl ⟨rfl, rfl⟩
  | (j, x) :: r, _, k, ⟨j', v, r', e, e2, p, ps⟩ => by
    subst e e2
    rw [valV_cons]
    unfold dget
    by_cases hj : j' = k
    · subst hj
      rw [if_pos rfl, if_pos rfl]
      exact .inr ⟨x, v, rfl, rfl, p⟩
    · rw [if_neg hj, if_neg (fun z => hj (Ky.one.inj z))]
      exact d1_get k ps
theorem d2_get : ∀ {kvs : List (Ky × PV)} {ws : List (List Key × V)} (k : List Key), RepD2 X.K ρ H kvs ws → (dget (.many k) kvs = none ∧ valV ws k = none) ∨ ∃ x v, dget (.many k) kvs = some x ∧ valV ws k = some v ∧ Rep X.K ρ H x v
  | [], _, k, q => by cases q; exact .inl ⟨rfl, rfl⟩
  | (j, x) :: r, _, k, ⟨j', v, r', e, e2, p, ps⟩ => by
    subst e e2
    rw [valV_cons]
    unfold dget
    by_cases hj : j' = k
    · subst hj
      rw [if_pos rfl, if_pos rfl]
      exact .inr ⟨x, v, rfl, rfl, p⟩
    · rw [if_neg hj, if_neg (fun z => hj (Ky.many.inj z))]
      exact d2_get k ps
theorem d1_many : ∀ {kvs : List (Ky × PV)} {ws : List (Key × V)} (k : List At), RepD1 X.K ρ H kvs ws → dget (.many k) kvs = none
  | [], _, k, _ => rfl
  | (j, x) :: r, _, k, ⟨j', v, r', e, e2, p, ps⟩ => by
    subst e e2
    unfold dget
    rw [if_neg (fun z => by cases z)]
    exact d1_many k ps
theorem d2_one : ∀ {kvs : List (Ky × PV)} {ws : List (List Key × V)} (k : At), RepD2 X.K ρ H kvs ws → dget (.one k) kvs = none
  | [], _, k, _ => rfl
  | (j, x) :: r, _, k, ⟨j', v, r', e, e2, p, ps⟩ => by
    subst e e2
    unfold dget
    rw [if_neg (fun z => by cases z)]
    exact d2_one k ps
/-- what a dict tells of a key that is there -/
theorem dic_some {i : Nat} {kvs : List (Ky × PV)} {k : Ky} {a : Addr} (r : HR X.K X.mg ρ h H) (e : h[i]? = some (.dic kvs)) (e1 : ρ[i]? = some a) (hk : keyOf y = some k) (p : Rep X.K ρ H y u) (g : dget k kvs = some z) :
    ∃ w, DGet H a u (some w) ∧ Rep X.K ρ H z w := by
  obtain ⟨b, e2, q⟩ := r.get e
  rw [e1] at e2; cases e2
  rcases q with ⟨ws, hd, q⟩ | ⟨ws, hd, q⟩
  · cases k with
    | one k =>
      rcases d1_get k q with ⟨g1, _⟩ | ⟨x', w, g1, g2, rp⟩
      · rw [g] at g1; cases g1
      · rw [g] at g1; cases g1
        exact ⟨w, .inl ⟨ws, k, .inl hd, keyOf_one hk p, g2.symm⟩, rp⟩
    | many k => rw [d1_many k q] at g; cases g
  · cases k with
    | many k =>
      rcases d2_get k q with ⟨g1, _⟩ | ⟨x', w, g1, g2, rp⟩
      · rw [g] at g1; cases g1
      · rw [g] at g1; cases g1
        obtain ⟨b, rfl, hb⟩ := keyOf_many hk p
        exact ⟨w, .inr ⟨ws, k, b, .inl hd, rfl, hb, g2.symm⟩, rp⟩
    | one k => rw [d2_one k q] at g; cases g
/-- the same of a locked dict -/
theorem ldc_some {i : Nat} {kvs : List (Ky × PV)} {u0 : HO} {k : Ky} {a : Addr} (r : HR X.K X.mg ρ h H) (e : h[i]? = some (.ldc u0 kvs)) (e1 : ρ[i]? = some a) (hk : keyOf y = some k) (p : Rep X.K ρ H y u) (g : dget k kvs = some z) :
    ∃ w, DGet H a u (some w) ∧ Rep X.K ρ H z w := by
  obtain ⟨b, e2, q⟩ := r.get e
  rw [e1] at e2; cases e2
  obtain ⟨hd, q⟩ := q
  rcases q with ⟨od, ws, rfl, q⟩ | ⟨od, ws, rfl, q⟩
  · cases k with
    | one k =>
      rcases d1_get k q with ⟨g1, _⟩ | ⟨x', w, g1, g2, rp⟩
      · rw [g] at g1; cases g1
      · rw [g] at g1; cases g1
        exact ⟨w, .inl ⟨ws, k, .inr ⟨od, hd⟩, keyOf_one hk p, g2.symm⟩, rp⟩
    | many k => rw [d1_many k q] at g; cases g
  · cases k with
    | many k =>
      rcases d2_get k q with ⟨g1, _⟩ | ⟨x', w, g1, g2, rp⟩
      · rw [g] at g1; cases g1
      · rw [g] at g1; cases g1
        obtain ⟨b, rfl, hb⟩ := keyOf_many hk p
        exact ⟨w, .inr ⟨ws, k, b, .inr ⟨od, hd⟩, rfl, hb, g2.symm⟩, rp⟩
    | one k => rw [d2_one k q] at g; cases g
/-- an empty dict is one of both kinds -/
theorem toT {pins : List (Addr × Obj)} {σ : St} {s : Shared} {a : Addr} (I : Inv X pins σ H s) (e : H a = some (.dK [])) : Inv X pins σ (upd H a (.dT [])) s := by
  obtain ⟨_, hd, vs, rel, dd⟩ : ([] : List (Key × V)).length ≤ sizeLine ∧ (a == sysModules) = false ∧ ∃ vs, KV ([] : List (Key × V)) vs ∧ s.heap.DictOf (mixKind X.prog X.w) a vs := I.hok a _ e
  cases rel
  obtain ⟨o, es, ep, h1, h2, h3, h4, h5, h6⟩ := id dd
  have e0 : es.toList = [] := by
    cases hh : es.toList with
    | nil => rfl
    | cons x r => rw [hh] at h5; cases h5
  have J : Inv X pins σ (upd H a (.dT [])) { s with heap := s.heap, toks := s.toks } := I.write (t' := s.toks) (x := a) (e := a) (by rw [e]; trivial) (.inl rfl) (fun b u _ q => q) ⟨o, h1⟩ ⟨Nat.zero_le _, hd, [], .nil, o, es, ep, h1, h2, h3, by rw [e0]; rfl, List.nodup_nil⟩
  exact J
theorem toK {pins : List (Addr × Obj)} {σ : St} {s : Shared} {a : Addr} (I : Inv X pins σ H s) (e : H a = some (.dT [])) : Inv X pins σ (upd H a (.dK [])) s := by
  obtain ⟨_, hd, vs, rel, o, es, ep, h1, h2, h3, h4, h5⟩ := id (I.hok a _ e)
  cases rel
  have e0 : es.toList = [] := h4
  have kk : KeysOf (mixKind X.prog X.w) es := fun d hd' => by
    have hd2 : d ∈ es.toList := by simpa using hd'
    rw [e0] at hd2
    cases hd2
  have pp : Pairs (mixKind X.prog X.w) es.toList [] := by
    rw [e0]
    exact .nil
  have dd : s.heap.DictOf (mixKind X.prog X.w) a [] := ⟨o, es, ep, h1, h2, h3, kk, pp, List.nodup_nil⟩
  have J : Inv X pins σ (upd H a (.dK [])) { s with heap := s.heap, toks := s.toks } := I.write (t' := s.toks) (x := a) (e := a) (by rw [e]; trivial) (.inl rfl) (fun b u _ q => q) ⟨o, h1⟩ ⟨Nat.zero_le _, hd, [], .nil, dd⟩
  exact J
theorem d1_kind {kvs : List (Ky × PV)} {ws : List (Key × V)} {k : List At} (q : RepD1 X.K ρ H kvs ws) (z : kindOk (.many k) kvs = true) : kvs = [] ∧ ws = [] := by
  cases kvs with
  | nil => cases q; exact ⟨rfl, rfl⟩
  | cons p r =>
    obtain ⟨j, x⟩ := p
    obtain ⟨j', v, r', e, e2, _⟩ := q
    subst e2
    cases z
theorem d2_kind {kvs : List (Ky × PV)} {ws : List (List Key × V)} {k : At} (q : RepD2 X.K ρ H kvs ws) (z : kindOk (.one k) kvs = true) : kvs = [] ∧ ws = [] := by
  cases kvs with
  | nil => cases q; exact ⟨rfl, rfl⟩
  | cons p r =>
    obtain ⟨j, x⟩ := p
    obtain ⟨j', v, r', e, e2, _⟩ := q
    subst e2
    cases z
/-- the dict as its keys want it: the same heap, told otherwise -/
theorem dic_any {pins : List (Addr × Obj)} {σ : St} {s : Shared} {i : Nat} {kvs : List (Ky × PV)} {k : Ky} {a : Addr} (I : Inv X pins σ H s) (r : HR X.K X.mg ρ h H) (e : h[i]? = some (.dic kvs)) (e1 : ρ[i]? = some a) (hk : keyOf y = some k) (p : Rep X.K ρ H y u) (kk : kindOk k kvs = true) :
    ∃ H1 o, Inv X pins σ H1 s ∧ Nx ρ H ρ H1 ∧ HR X.K X.mg ρ h H1 ∧ DGet H1 a u o ∧ o.isSome = (dget k kvs).isSome := by
  obtain ⟨b, e2, q⟩ := r.get e
  rw [e1] at e2; cases e2
  have hi : i < h.length := (List.getElem?_eq_some_iff.mp e).1
  have hself : h.set i (.dic kvs) = h := by
    obtain ⟨_, ee⟩ := List.getElem?_eq_some_iff.mp e
    rw [← ee]
    exact List.set_getElem_self _
  rcases q with ⟨ws, hd, q⟩ | ⟨ws, hd, q⟩
  · cases k with
    | one k =>
      rcases d1_get k q with ⟨g1, g2⟩ | ⟨x', w, g1, g2, rp⟩
      · exact ⟨H, _, I, .refl, r, .inl ⟨ws, k, .inl hd, keyOf_one hk p, rfl⟩, by rw [g1, g2] <;> rfl⟩
      · exact ⟨H, _, I, .refl, r, .inl ⟨ws, k, .inl hd, keyOf_one hk p, rfl⟩, by rw [g1, g2] <;> rfl⟩
    | many k =>
      obtain ⟨rfl, rfl⟩ := d1_kind q kk
      obtain ⟨b, rfl, hb⟩ := keyOf_many hk p
      have wr := r.write (i := i) (a := a) e1 (u := .dT []) (o := .dic []) (.inr ⟨[], upd_same, rfl⟩)
      rw [hself] at wr
      exact ⟨upd H a (.dT []), _, toT I hd, wr.2, wr.1, .inr ⟨[], k, b, .inl upd_same, rfl, (upd_ne (ne_of hb hd (by intro z; cases z))).trans hb, rfl⟩, rfl⟩
  · cases k with
    | many k =>
      obtain ⟨b, rfl, hb⟩ := keyOf_many hk p
      rcases d2_get k q with ⟨g1, g2⟩ | ⟨x', w, g1, g2, rp⟩
      · exact ⟨H, _, I, .refl, r, .inr ⟨ws, k, b, .inl hd, rfl, hb, rfl⟩, by rw [g1, g2] <;> rfl⟩
      · exact ⟨H, _, I, .refl, r, .inr ⟨ws, k, b, .inl hd, rfl, hb, rfl⟩, by rw [g1, g2] <;> rfl⟩
    | one k =>
      obtain ⟨rfl, rfl⟩ := d2_kind q kk
      have wr := r.write (i := i) (a := a) e1 (u := .dK []) (o := .dic []) (.inl ⟨[], upd_same, rfl⟩)
      rw [hself] at wr
      exact ⟨upd H a (.dK []), _, toK I hd, wr.2, wr.1, .inl ⟨[], k, .inl upd_same, keyOf_one hk p, rfl⟩, rfl⟩

/-! ### d[k] = v -/
theorem d1_map (k : Key) {v : V} (rp : Rep X.K ρ H x v) : ∀ {kvs : List (Ky × PV)} {ws : List (Key × V)}, RepD1 X.K ρ H kvs ws →
    RepD1 X.K ρ H (kvs.map fun p => if p.1 = .one k then (p.1, x) else p) (ws.map fun kv => if kv.1 = k then (kv.1, v) else kv)
  | [], _, q => by cases q; exact rfl
  | (j, y) :: r, _, ⟨j', u, r', e, e2, p, ps⟩ => by
    subst e e2
    rw [List.map_cons, List.map_cons]
    by_cases hj : j' = k
    · subst hj
      rw [if_pos rfl, if_pos rfl]
      exact ⟨_, _, _, rfl, rfl, rp, d1_map j' rp ps⟩
    · rw [if_neg hj, if_neg (fun z => hj (Ky.one.inj z))]
      exact ⟨_, _, _, rfl, rfl, p, d1_map k rp ps⟩
theorem d2_map (k : List Key) {v : V} (rp : Rep X.K ρ H x v) : ∀ {kvs : List (Ky × PV)} {ws : List (List Key × V)}, RepD2 X.K ρ H kvs ws →
    RepD2 X.K ρ H (kvs.map fun p => if p.1 = .many k then (p.1, x) else p) (ws.map fun kv => if kv.1 = k then (kv.1, v) else kv)
  | [], _, q => by cases q; exact rfl
  | (j, y) :: r, _, ⟨j', u, r', e, e2, p, ps⟩ => by
    subst e e2
    rw [List.map_cons, List.map_cons]
    by_cases hj : j' = k
    · subst hj
      rw [if_pos rfl, if_pos rfl]
      exact ⟨_, _, _, rfl, rfl, rp, d2_map j' rp ps⟩
    · rw [if_neg hj, if_neg (fun z => hj (Ky.many.inj z))]
      exact ⟨_, _, _, rfl, rfl, p, d2_map k rp ps⟩
theorem d1_app {k : Key} {v : V} (rp : Rep X.K ρ H x v) : ∀ {kvs : List (Ky × PV)} {ws : List (Key × V)}, RepD1 X.K ρ H kvs ws → RepD1 X.K ρ H (kvs ++ [(.one k, x)]) (ws ++ [(k, v)])
  | [], _, q => by cases q; exact ⟨_, _, _, rfl, rfl, rp, rfl⟩
  | (j, y) :: r, _, ⟨j', u, r', e, e2, p, ps⟩ => by subst e e2; exact ⟨_, _, _, rfl, rfl, p, d1_app rp ps⟩
theorem d2_app {k : List Key} {v : V} (rp : Rep X.K ρ H x v) : ∀ {kvs : List (Ky × PV)} {ws : List (List Key × V)}, RepD2 X.K ρ H kvs ws → RepD2 X.K ρ H (kvs ++ [(.many k, x)]) (ws ++ [(k, v)])
  | [], _, q => by cases q; exact ⟨_, _, _, rfl, rfl, rp, rfl⟩
  | (j, y) :: r, _, ⟨j', u, r', e, e2, p, ps⟩ => by subst e e2; exact ⟨_, _, _, rfl, rfl, p, d2_app rp ps⟩
theorem d1_put (k : Key) {v : V} (rp : Rep X.K ρ H x v) {kvs : List (Ky × PV)} {ws : List (Key × V)} (q : RepD1 X.K ρ H kvs ws) : RepD1 X.K ρ H (dput (.one k) x kvs) (putK ws k v) := by
  unfold dput putK
  rw [valV_any]
  rcases d1_get k q with ⟨g1, g2⟩ | ⟨x', w, g1, g2, _⟩
  · rw [g1, g2, if_neg (by simp), if_neg (by simp)]
    exact d1_app rp q
  · rw [g1, g2, Option.isSome_some, Option.isSome_some, if_pos rfl, if_pos rfl]
    exact d1_map k rp q
theorem d2_put (k : List Key) {v : V} (rp : Rep X.K ρ H x v) {kvs : List (Ky × PV)} {ws : List (List Key × V)} (q : RepD2 X.K ρ H kvs ws) : RepD2 X.K ρ H (dput (.many k) x kvs) (putK ws k v) := by
  unfold dput putK
  rw [valV_any]
  rcases d2_get k q with ⟨g1, g2⟩ | ⟨x', w, g1, g2, _⟩
  · rw [g1, g2, if_neg (by simp), if_neg (by simp)]
    exact d2_app rp q
  · rw [g1, g2, Option.isSome_some, Option.isSome_some, if_pos rfl, if_pos rfl]
    exact d2_map k rp q
theorem d1_len : ∀ {kvs : List (Ky × PV)} {ws : List (Key × V)}, RepD1 X.K ρ H kvs ws → kvs.length = ws.length
  | [], _, q => by cases q; rfl
  | (j, y) :: r, _, ⟨j', u, r', e, e2, p, ps⟩ => by subst e; rw [List.length_cons, List.length_cons, d1_len ps]
theorem d2_len : ∀ {kvs : List (Ky × PV)} {ws : List (List Key × V)}, RepD2 X.K ρ H kvs ws → kvs.length = ws.length
  | [], _, q => by cases q; rfl
  | (j, y) :: r, _, ⟨j', u, r', e, e2, p, ps⟩ => by subst e; rw [List.length_cons, List.length_cons, d2_len ps]
/-- a store into a dict: the heap told otherwise first, where the empty dict was of the other kind -/
theorem dic_put {pins : List (Addr × Obj)} {σ : St} {s : Shared} {i : Nat} {kvs : List (Ky × PV)} {k : Ky} {a : Addr} (I : Inv X pins σ H s) (r : HR X.K X.mg ρ h H) (e : h[i]? = some (.dic kvs)) (e1 : ρ[i]? = some a) (hk : keyOf y = some k) (p : Rep X.K ρ H y u)
    (pz : Rep X.K ρ H z w) (kk : kindOk k kvs = true) (hl : kvs.length < big) :
    ∃ H1 H2, Inv X pins σ H1 s ∧ DPut H1 a u w H2 ∧ Nx ρ H ρ H2 ∧ HR X.K X.mg ρ (h.set i (.dic (dput k z kvs))) H2 := by
  obtain ⟨b, e2, q⟩ := r.get e
  rw [e1] at e2; cases e2
  rcases q with ⟨ws, hd, q⟩ | ⟨ws, hd, q⟩
  · cases k with
    | one k =>
      have wr := fun (new) => r.write (i := i) (a := a) e1 (u := .dK (putK ws k w)) (o := .dic (dput (.one k) z kvs)) new
      have n : Nx ρ H ρ (upd H a (.dK (putK ws k w))) := ⟨⟨[], by simp⟩, fun b o q z => by rw [upd_ne (fun y => z (by rw [y]; exact List.mem_of_getElem? e1) : b ≠ a)]; exact q, fun b q z => absurd q z⟩
      have wr' := wr (.inl ⟨_, upd_same, RepD1.stay (r.stay n) _ _ (d1_put k pz q)⟩)
      exact ⟨H, _, I, .inl ⟨ws, k, hd, keyOf_one hk p, by rw [← big_eq, ← d1_len q]; exact hl, rfl⟩, wr'.2, wr'.1⟩
    | many k =>
      obtain ⟨rfl, rfl⟩ := d1_kind q kk
      obtain ⟨b, rfl, hb⟩ := keyOf_many hk p
      have n : Nx ρ H ρ (upd (upd H a (.dT [])) a (.dT [(k, w)])) := ⟨⟨[], by simp⟩, fun b o q z => by
        have nb : b ≠ a := fun y => z (by rw [y]; exact List.mem_of_getElem? e1)
        rw [upd_ne nb, upd_ne nb]; exact q, fun b q z => absurd q z⟩
      have n' := n
      rw [upd_upd] at n'
      have wr := r.write (i := i) (a := a) e1 (u := .dT [(k, w)]) (o := .dic (dput (.many k) z [])) (.inr ⟨_, upd_same, ⟨k, w, [], rfl, rfl, pz.nx r n', rfl⟩⟩)
      refine ⟨upd H a (.dT []), upd (upd H a (.dT [])) a (.dT [(k, w)]), toT I hd, .inr ⟨[], k, b, upd_same, rfl, (upd_ne (ne_of hb hd (by intro z; cases z))).trans hb, by decide, rfl⟩, n, ?_⟩
      rw [upd_upd]
      exact wr.1
  · cases k with
    | many k =>
      obtain ⟨b, rfl, hb⟩ := keyOf_many hk p
      have n : Nx ρ H ρ (upd H a (.dT (putK ws k w))) := ⟨⟨[], by simp⟩, fun b o q z => by rw [upd_ne (fun y => z (by rw [y]; exact List.mem_of_getElem? e1) : b ≠ a)]; exact q, fun b q z => absurd q z⟩
      have wr' := r.write (i := i) (a := a) e1 (u := .dT (putK ws k w)) (o := .dic (dput (.many k) z kvs)) (.inr ⟨_, upd_same, RepD2.stay (r.stay n) _ _ (d2_put k pz q)⟩)
      exact ⟨H, _, I, .inr ⟨ws, k, b, hd, rfl, hb, by rw [← big_eq, ← d2_len q]; exact hl, rfl⟩, wr'.2, wr'.1⟩
    | one k =>
      obtain ⟨rfl, rfl⟩ := d2_kind q kk
      have n : Nx ρ H ρ (upd (upd H a (.dK [])) a (.dK [(k, w)])) := ⟨⟨[], by simp⟩, fun b o q z => by
        have nb : b ≠ a := fun y => z (by rw [y]; exact List.mem_of_getElem? e1)
        rw [upd_ne nb, upd_ne nb]; exact q, fun b q z => absurd q z⟩
      have n' := n
      rw [upd_upd] at n'
      have wr := r.write (i := i) (a := a) e1 (u := .dK [(k, w)]) (o := .dic (dput (.one k) z [])) (.inl ⟨_, upd_same, ⟨k, w, [], rfl, rfl, pz.nx r n', rfl⟩⟩)
      refine ⟨upd H a (.dK []), upd (upd H a (.dK [])) a (.dK [(k, w)]), toK I hd, .inl ⟨[], k, upd_same, keyOf_one hk p, by decide, rfl⟩, n, ?_⟩
      rw [upd_upd]
      exact wr.1
end
end Z

/-! ZsD: operators and subscripts by values, in the hand layer's words. -/
namespace Z
open PySem L2
section
variable {X : Cx} {W : WX}

/-- a comparison, by values -/
def cmpO (o : CmpOp) (x y : PV) (h : Hep) (F : KQ) : Prop := cmpW o x y h fun t => F (.bl t) h

theorem in_core {neg : Bool} (hu : X.A.units + 65 < cLine) {pins : List (Addr × Obj)} {s : Shared} {σ : St} {H : Hp} {x y : PV} {v u : V} {ov uv : Value} {Q : VK} {ρ : List Addr} {h : Hep} {K : Bool → Prop} (I : Inv X pins σ H s) (rx : RelV v ov) (ry : RelV u uv)
    (r : HR X.K X.mg ρ h H) (px : Rep X.K ρ H x v) (py : Rep X.K ρ H y u) (w : inW h x y K)
    (hQ : ∀ (b : Bool) (H' : Hp), K b → Nx ρ H ρ H' → HR X.K X.mg ρ h H' → Q (.bl (if neg = true then !b else b)) H') :
    wpAny (model X.prog X.w) X.A (compareOp (if neg = true then .NotIn else .In) ov uv) (EP X pins σ Q) X.xe s := by
  have seqs : ∀ {ys : List PV} {es : PyData} , inL h x ys K → (∀ ds, datAll (dat h 59) ys = some ds → ∃ as, Reads s.heap uv (.list ds) as ∨ Reads s.heap uv (.tuple ds) as) →
      wpAny (model X.prog X.w) X.A (compareOp (if neg = true then .NotIn else .In) ov uv) (EP X pins σ Q) X.xe s := by
    intro ys es hi hr
    obtain ⟨d, ds, e1, e2, e3, e4, k⟩ := hi
    obtain ⟨bs, r1⟩ := Dp.reads I d v ov (dat_dp r 59 x v d px e1) rx
    have z := SeqAt.canLay_of_shaped e2
    have dz := SeqAt.depth_of_shaped e2
    have room : X.A.units + 1 + min (PyData.depthAll ds) d.depth < cLine := by
      have := Nat.min_le_right (PyData.depthAll ds) d.depth
      omega
    obtain ⟨as, q⟩ := hr ds e3
    have fin := hQ _ H k .refl r
    cases neg with
    | true =>
      rcases q with q | q
      · exact SeqAt.notIn_list_reads q r1 e4 z room ⟨.bl _, H, I, rfl, fin⟩
      · exact SeqAt.notIn_tuple_reads q r1 e4 z room ⟨.bl _, H, I, rfl, fin⟩
    | false =>
      rcases q with q | q
      · exact SeqAt.in_list_reads q r1 e4 z room ⟨.bl _, H, I, rfl, fin⟩
      · exact SeqAt.in_tuple_reads q r1 e4 z room ⟨.bl _, H, I, rfl, fin⟩
  cases y with
  | str t =>
    obtain rfl := py
    cases x with
    | str s' =>
      obtain rfl := px
      have k : K (!(Builtin.Str.occurrences t s' 0 t.length 1).isEmpty) := w
      have fin := hQ _ H k .refl r
      cases neg with
      | true => exact op_notin_str pins s σ H _ _ ov uv Q I rx ry ⟨s', t, rfl, rfl, fin⟩
      | false => exact op_in_str pins s σ H _ _ ov uv Q I rx ry ⟨s', t, rfl, rfl, fin⟩
    | _ => exact False.elim w
  | tup ys =>
    obtain ⟨a, vs, rfl, t, ps⟩ := py
    refine seqs (es := .none) w fun ds e => ?_
    obtain ⟨as, q⟩ := Dp.reads I (.tuple ds) _ uv (.tup t.sq (dat_all _ (dat_dp r 59) ys vs ds ps e)) ry
    exact ⟨as, .inr q⟩
  | itp ys =>
    obtain ⟨a, vs, rfl, t, ps⟩ := py
    refine seqs (es := .none) w fun ds e => ?_
    obtain ⟨as, q⟩ := Dp.reads I (.tuple ds) _ uv (.tup t.sq (dat_all _ (dat_dp r 59) ys vs ds ps e)) ry
    exact ⟨as, .inr q⟩
  | ils ys =>
    obtain ⟨a, vs, rfl, t, ps⟩ := py
    refine seqs (es := .none) w fun ds e => ?_
    obtain ⟨as, q⟩ := Dp.reads I (.list ds) _ uv (.lst t.sq (dat_all _ (dat_dp r 59) ys vs ds ps e)) ry
    exact ⟨as, .inl q⟩
  | ref i =>
    have w' : (match h[i]? with
      | some (.lst ys) => inL h x ys K
      | some (.dic kvs) => ∃ k, keyOf x = some k ∧ kindOk k kvs = true ∧ K (dget k kvs).isSome
      | _ => False) := w
    split at w'
    · rename_i ys e
      obtain ⟨a, e1, rfl⟩ := py
      obtain ⟨b, vs, e2, k, ps⟩ := r.lst e
      rw [e1] at e2; cases e2
      refine seqs (es := .none) w' fun ds e => ?_
      obtain ⟨as, q⟩ := Dp.reads I (.list ds) _ uv (.lst (SqL.of k) (dat_all _ (dat_dp r 59) ys vs ds ps e)) ry
      exact ⟨as, .inl q⟩
    · rename_i kvs e
      obtain ⟨k, hk, kk, w'⟩ := w'
      obtain ⟨a, e1, rfl⟩ := py
      obtain rfl : uv = Value.ref a := ry
      obtain ⟨H1, o, I1, n, r1, g, eo⟩ := dic_any I r e e1 hk px kk
      have fin := hQ _ H1 w' n r1
      rw [← eo] at fin
      have hu1 : X.A.units + 1 < cLine := by omega
      cases neg with
      | true => exact d_notIn hu1 I1 g rx fun s3 I3 => ⟨.bl _, H1, I3, rfl, fin⟩
      | false => exact d_in hu1 I1 g rx fun s3 I3 => ⟨.bl _, H1, I3, rfl, fin⟩
    · exact w'.elim
  | _ => exact False.elim w

theorem odd2 {ρ : List Addr} {h : Hep} {H : Hp} {x y : PV} {v u : V} {b : Bool} (r : HR X.K X.mg ρ h H) (p1 : Rep X.K ρ H x v) (p2 : Rep X.K ρ H y u) (o : oddE h x y b) : Zh.Odd2 X.K v u H b := by
  rcases o with ⟨xs, z, rfl, rfl, rfl⟩ | ⟨i, z, rfl, rfl, o, rfl⟩ | ⟨xs, rfl, rfl, rfl⟩ | ⟨i, j, xs, rfl, rfl, e1, e2, rfl⟩
  · obtain ⟨a, vs, rfl, t, ps⟩ := p1
    obtain rfl := p2
    exact .inl ⟨a, vs, z, rfl, rfl, .inr t.sq, rfl⟩
  · obtain ⟨a, e1, rfl⟩ := p1
    obtain rfl := p2
    rcases o with ⟨xs, e⟩ | ⟨kvs, e⟩
    · obtain ⟨b, vs, e2, k, ps⟩ := r.lst e
      rw [e1] at e2; cases e2
      exact .inl ⟨a, vs, z, rfl, rfl, .inl (SqL.of k), rfl⟩
    · obtain ⟨b, e2, q⟩ := r.get e
      rw [e1] at e2; cases e2
      rcases q with ⟨ws, hd, _⟩ | ⟨ws, hd, _⟩
      · exact .inr (.inl ⟨a, z, rfl, rfl, .inl ⟨ws, hd⟩, rfl⟩)
      · exact .inr (.inl ⟨a, z, rfl, rfl, .inr ⟨ws, hd⟩, rfl⟩)
  · obtain ⟨a, vs, rfl, t, ps⟩ := p1
    obtain ⟨a2, vs2, rfl, t2, ps2⟩ := p2
    have l2 : vs2 = [] := List.length_eq_zero_iff.mp ps2.len.symm
    subst l2
    refine .inr (.inr (.inl ⟨a, a2, vs, rfl, rfl, t.sq, t2.sq, ?_⟩))
    have := ps.len
    cases xs <;> cases vs <;> simp_all
  · obtain ⟨a, f1, rfl⟩ := p1
    obtain ⟨a2, f2, rfl⟩ := p2
    obtain ⟨b1, vs, g1, k1, q1⟩ := r.lst e1
    obtain ⟨b2, us, g2, k2, q2⟩ := r.lst e2
    rw [f1] at g1; cases g1
    rw [f2] at g2; cases g2
    have l2 : us = [] := List.length_eq_zero_iff.mp q2.len.symm
    subst l2
    refine .inr (.inr (.inr ⟨a, a2, vs, rfl, rfl, SqL.of k1, SqL.of k2, ?_⟩))
    have := q1.len
    cases xs <;> cases vs <;> simp_all
theorem or_cmp (hu : X.A.units + 65 < cLine) (o : CmpOp) : OpR X (compareOp o) (LR2 X (cmpO o)) := by
  intro pins s σ H x y v u Q I rx ry q
  obtain ⟨ρ, h, x', y', F, r, p1, p2, kq, w⟩ := q
  have hu64 : X.A.units + 64 < cLine := by omega
  unfold cmpO at w
  cases o with
  | Eq =>
    have w2 : eqW h x' y' fun t => F (.bl t) h := w
    clear w
    rcases w2 with ⟨d, e, e1, e2, s1, s2, w⟩ | ⟨a, b, rfl, rfl, w⟩ | ⟨b, o, w⟩
    · exact op_eqD hu64 pins s σ H _ _ v u Q I rx ry ⟨d, e, dat_dp r 60 _ _ _ p1 e1, dat_dp r 60 _ _ _ p2 e2, s1, s2, kq.bl r w⟩
    · obtain rfl := p1
      obtain rfl := p2
      exact op_eq pins s σ H _ _ v u Q I rx ry ⟨rfl, by rw [dec_str]; exact kq.bl r w⟩
    · exact Zh.op_eqX (by omega) pins s σ H _ _ v u Q I rx ry ⟨b, odd2 r p1 p2 o, kq.bl r w⟩
  | NotEq =>
    have w2 : eqW h x' y' fun t => F (.bl (!t)) h := w
    clear w
    rcases w2 with ⟨d, e, e1, e2, s1, s2, w⟩ | ⟨a, b, rfl, rfl, w⟩ | ⟨b, o, w⟩
    · exact op_neD hu64 pins s σ H _ _ v u Q I rx ry ⟨d, e, dat_dp r 60 _ _ _ p1 e1, dat_dp r 60 _ _ _ p2 e2, s1, s2, kq.bl r w⟩
    · obtain rfl := p1
      obtain rfl := p2
      exact op_ne pins s σ H _ _ v u Q I rx ry ⟨rfl, by rw [dec_str]; exact kq.bl r w⟩
    · exact Zh.op_neX (by omega) pins s σ H _ _ v u Q I rx ry ⟨b, odd2 r p1 p2 o, kq.bl r w⟩
  | Lt =>
    unfold cmpW at w
    dsimp only at w
    split at w
    · obtain rfl := p1
      obtain rfl := p2
      exact op_lt pins s σ H _ _ v u Q I rx ry ⟨_, _, rfl, rfl, kq.bl r w⟩
    · obtain rfl := p1
      obtain rfl := p2
      exact op_lt_str pins s σ H _ _ v u Q I rx ry ⟨_, _, rfl, rfl, kq.bl r w⟩
    · exact w.elim
  | LtE =>
    unfold cmpW at w
    dsimp only at w
    split at w
    · obtain rfl := p1
      obtain rfl := p2
      exact op_le pins s σ H _ _ v u Q I rx ry ⟨_, _, rfl, rfl, kq.bl r w⟩
    · exact w.elim
  | Gt =>
    unfold cmpW at w
    dsimp only at w
    split at w
    · obtain rfl := p1
      obtain rfl := p2
      exact op_gt pins s σ H _ _ v u Q I rx ry ⟨_, _, rfl, rfl, kq.bl r w⟩
    · exact w.elim
  | GtE =>
    unfold cmpW at w
    dsimp only at w
    split at w
    · obtain rfl := p1
      obtain rfl := p2
      exact op_ge pins s σ H _ _ v u Q I rx ry ⟨_, _, rfl, rfl, kq.bl r w⟩
    · exact w.elim
  | Is =>
    unfold cmpW at w
    dsimp only at w
    split at w
    · obtain rfl := p2
      refine op_isN pins s σ H _ _ v u Q I rx ry ⟨rfl, ?_⟩
      cases x' with
      | non => obtain rfl := p1; exact kq.bl r w
      | bl b => obtain rfl := p1; exact kq.bl r w
      | int b => obtain rfl := p1; exact kq.bl r w
      | str b => obtain rfl := p1; exact kq.bl r w
      | tup b => obtain ⟨a, vs, rfl, _⟩ := p1; exact kq.bl r w
      | itp b => obtain ⟨a, vs, rfl, _⟩ := p1; exact kq.bl r w
      | ils b => obtain ⟨a, vs, rfl, _⟩ := p1; exact kq.bl r w
      | exc b ns xs => obtain ⟨a, C, d, gs, rfl, _⟩ := p1; exact kq.bl r w
      | ref b => obtain ⟨a, _, rfl⟩ := p1; exact kq.bl r w
    · split at w
      · obtain rfl := p1
        obtain rfl := p2
        exact L2.op_isBl pins s σ H _ _ v u Q I rx ry ⟨_, _, rfl, rfl, kq.bl r w⟩
      · exact w.elim
    · exact w.elim
  | IsNot =>
    unfold cmpW at w
    dsimp only at w
    split at w
    · obtain rfl := p2
      refine op_notN pins s σ H _ _ v u Q I rx ry ⟨rfl, ?_⟩
      cases x' with
      | non => obtain rfl := p1; exact kq.bl r w
      | bl b => obtain rfl := p1; exact kq.bl r w
      | int b => obtain rfl := p1; exact kq.bl r w
      | str b => obtain rfl := p1; exact kq.bl r w
      | tup b => obtain ⟨a, vs, rfl, _⟩ := p1; exact kq.bl r w
      | itp b => obtain ⟨a, vs, rfl, _⟩ := p1; exact kq.bl r w
      | ils b => obtain ⟨a, vs, rfl, _⟩ := p1; exact kq.bl r w
      | exc b ns xs => obtain ⟨a, C, d, gs, rfl, _⟩ := p1; exact kq.bl r w
      | ref b => obtain ⟨a, _, rfl⟩ := p1; exact kq.bl r w
    · split at w
      · obtain rfl := p1
        obtain rfl := p2
        exact L2.op_notBl pins s σ H _ _ v u Q I rx ry ⟨_, _, rfl, rfl, kq.bl r w⟩
      · exact w.elim
    · exact w.elim
  | In =>
    refine in_core (neg := false) hu I rx ry r p1 p2 (K := fun t => F (.bl t) h) w fun b H' k n r' => ?_
    exact kq (.bl b) _ _ _ _ n r' rfl k
  | NotIn =>
    refine in_core (neg := true) hu I rx ry r p1 p2 (K := fun t => F (.bl (!t)) h) w fun b H' k n r' => ?_
    exact kq (.bl (!b)) _ _ _ _ n r' rfl k

/-! ### subscripts -/
theorem at_rep {K : PySem.W.Frag} {ρ : List Addr} {H : Hp} {xs : List PV} {vs : List V} {i : Int} {j : Nat} {x : PV} (ps : Reps K ρ H xs vs) (e : ixN xs.length i = some j) (g : xs[j]? = some x) : ∃ v, atI vs i = some v ∧ Rep K ρ H x v := by
  obtain ⟨v, e1, p⟩ := ps.get g
  refine ⟨v, ?_, p⟩
  unfold atI
  rw [← ps.len, show L2.ixN xs.length i = some j from e]
  exact e1
open PySem.Spec PyProof.Rows in
/-- a dict.s subscript -/
theorem ix_dict (hu : X.A.units + 1 < cLine) : IxR X (fun x y H Q => ∃ a v, x = .ref a ∧ DGet H a y (some v) ∧ Q v H) := by
  intro value slice pins s σ H x y v u Q I rx ry h hs
  obtain ⟨a, w, rfl, g, q⟩ := h
  obtain rfl : v = Value.ref a := rx
  have hT := dict_typeIs I g
  unfold subscriptTail
  refine wpAny_bind ?_
  rw [getitemInPython_of_ne hT.not_modules]
  refine wpAny_bind (wpAny_specialOf hT PySem.F.slot_dict_getitem.lookup ?_)
  have fin : wpAny (model X.prog X.w) X.A (subscripted slice false (.ref a) u) (fun r s₃ => wpAny (model X.prog X.w) X.A (letTemporaryGo value (.ref a) r >>= fun _ => pure r) (EP X pins σ Q) X.xe s₃) X.xe s := by
    rw [hs]
    exact wpAny_operating (wpAny_mono (d_getItem hu I g ry fun w' s3 I3 rw' => ⟨w, H, I3, rw', q⟩) (fun r s₃ h₃ => wpAny_bind (wpAny_letTemporaryGo (wpAny_pure h₃))) fun _ _ x => x)
  first
    | exact wpAny_pure (wpAny_bind fin)
    | exact wpAny_bind (wpAny_pure (wpAny_bind fin))
    | exact wpAny_bind fin
theorem ixr_imp {r r' : R2} (h : IxR X r) (k : ∀ v u H Q, r' v u H Q → r v u H Q) : IxR X r' := fun value slice pins s σ H x y v u Q I rx ry q => h value slice pins s σ H x y v u Q I rx ry (k _ _ _ _ q)
theorem ix_all (hu : X.A.units + 1 < cLine) : IxR X (LR2 X itemW) := by
  intro value slice pins s σ H x y v u Q I rx ry q hs
  obtain ⟨ρ, h, x', y', F, r, p1, p2, kq, w⟩ := q
  unfold itemW at w
  split at w
  · obtain ⟨j, z, e, g, w⟩ := w
    obtain ⟨a, vs, rfl, t, ps⟩ := p1
    obtain rfl := p2
    obtain ⟨zv, e1, p⟩ := at_rep ps e g
    exact ix_tup value slice pins s σ H _ _ v u Q I rx ry ⟨a, vs, _, zv, rfl, rfl, t.sq, e1, kq.here r p w⟩ hs
  · obtain ⟨j, z, e, g, w⟩ := w
    obtain ⟨a, vs, rfl, t, ps⟩ := p1
    obtain rfl := p2
    obtain ⟨zv, e1, p⟩ := at_rep ps e g
    exact ix_list value slice pins s σ H _ _ v u Q I rx ry ⟨a, vs, _, zv, rfl, rfl, t.sq, e1, kq.here r p w⟩ hs
  · obtain ⟨j, z, e, g, w⟩ := w
    obtain ⟨a, vs, rfl, t, ps⟩ := p1
    obtain rfl := p2
    obtain ⟨zv, e1, p⟩ := at_rep ps e g
    exact ix_tup value slice pins s σ H _ _ v u Q I rx ry ⟨a, vs, _, zv, rfl, rfl, t.sq, e1, kq.here r p w⟩ hs
  · obtain ⟨j, c, l, e, g, w⟩ := w
    obtain rfl := p1
    obtain rfl := p2
    refine ix_str value slice pins s σ H _ _ v u Q I rx ry ⟨_, _, c, rfl, rfl, by rw [← big_eq]; exact l, ?_, kq.str r w⟩ hs
    unfold atI
    rw [show L2.ixN _ _ = some j from e]
    exact g
  · obtain ⟨a, e1, rfl⟩ := p1
    split at w
    · rename_i xs e
      obtain ⟨b, vs, e2, k, ps⟩ := r.lst e
      rw [e1] at e2; cases e2
      split at w
      · obtain ⟨j, z, e, g, w⟩ := w
        obtain rfl := p2
        obtain ⟨zv, e1, p⟩ := at_rep ps e g
        exact ix_list value slice pins s σ H _ _ v u Q I rx ry ⟨a, vs, _, zv, rfl, rfl, SqL.of k, e1, kq.here r p w⟩ hs
      · exact w.elim
    · rename_i kvs e
      obtain ⟨k, z, hk, g, w⟩ := w
      obtain ⟨zv, dg, p⟩ := dic_some r e e1 hk p2 g
      exact ix_dict hu value slice pins s σ H _ _ v u Q I rx ry ⟨a, zv, rfl, dg, kq.here r p w⟩ hs
    · rename_i u0 kvs e
      obtain ⟨k, z, hk, g, w⟩ := w
      obtain ⟨zv, dg, p⟩ := ldc_some r e e1 hk p2 g
      exact ix_dict hu value slice pins s σ H _ _ v u Q I rx ry ⟨a, zv, rfl, dg, kq.here r p w⟩ hs
    · exact w.elim
  · exact w.elim

/-! ### slices -/
def LRS (X : Cx) : V → Option Int → Option Int → Hp → VK → Prop := fun v lo hi H Q => ∃ (ρ : List Addr) (h : Hep) (x : PV) (F : KQ), HR X.K X.mg ρ h H ∧ Rep X.K ρ H x v ∧ KQok X ρ H F Q ∧ sliceW x lo hi h F
theorem cutL_all {α : Type} {xs : List α} {lo hi : Option Int} (e : HT.sIx xs.length 0 lo = 0 ∧ HT.sIx xs.length xs.length hi = xs.length) : cutL xs lo hi = xs := by
  unfold cutL sIx
  rw [e.1, e.2, Nat.sub_zero, List.drop_zero, List.take_length]
theorem sl_all : SlR X (LRS X) := by
  intro pins s σ H x v vl vu lo hi sl Q I rx hs pl pu q
  obtain ⟨ρ, h, x', F, r, p1, kq, w⟩ := q
  unfold sliceW at w
  split at w
  · obtain ⟨a, vs, rfl, t, ps⟩ := p1
    refine sl_tupA pins s σ H _ v vl vu lo hi sl Q I rx hs pl pu ⟨a, vs, rfl, t.sq, fun z => ?_, fun _ p hp => kq.newT r (ps.cut lo hi) w hp⟩
    rw [← ps.len] at z
    rw [cutL_all z] at w
    exact kq.here r (x := .tup _) ⟨a, vs, rfl, t, ps⟩ w
  · obtain ⟨a, vs, rfl, t, ps⟩ := p1
    exact sl_list pins s σ H _ v vl vu lo hi sl Q I rx hs pl pu ⟨a, vs, rfl, t.sq, fun p hp => kq.newL r (ps.cut lo hi) w hp⟩
  · obtain ⟨xs, e, w⟩ := getL_some w
    obtain ⟨a, e1, rfl⟩ := p1
    obtain ⟨b, vs, e2, k, ps⟩ := r.lst e
    rw [e1] at e2; cases e2
    exact sl_list pins s σ H _ v vl vu lo hi sl Q I rx hs pl pu ⟨a, vs, rfl, SqL.of k, fun p hp => kq.newL r (ps.cut lo hi) w hp⟩
  · obtain rfl := p1
    exact sl_str pins s σ H _ v vl vu lo hi sl Q I rx hs pl pu ⟨_, rfl, by rw [← big_eq]; exact w.1, kq.str r w.2⟩
  · obtain ⟨a, vs, rfl, t, ps⟩ := p1
    refine Zh.sl_tupW pins s σ H _ v vl vu lo hi sl Q I rx hs pl pu ⟨a, vs, rfl, t.sq, fun z => ?_, fun z p o d hp => ?_⟩
    · rw [← ps.len] at z
      rw [cutL_all z] at w
      exact kq.here r (x := .itp _) ⟨a, vs, rfl, t, ps⟩ w
    · exact kq.newW r (ps.cut lo hi) d w hp
  · exact w.elim

/-! ### stores -/
theorem set_all (hu : X.A.units + 1 < cLine) {pins : List (Addr × Obj)} {s : Shared} {σ : St} {H : Hp} {o i v : V} {ov iv u : Value} {Q : Hp → Prop} (I : Inv X pins σ H s) (ro : RelV o ov) (ri : RelV i iv) (rv : RelV v u)
    {ρ : List Addr} {h : Hep} {x y z : PV} {F : Hep → Prop} (r : HR X.K X.mg ρ h H) (p1 : Rep X.K ρ H x o) (p2 : Rep X.K ρ H y i) (p3 : Rep X.K ρ H z v) (w : storeW x y z h F)
    (k : ∀ (h' : Hep) (H' : Hp), Nx ρ H ρ H' → HR X.K X.mg ρ h' H' → F h' → Q H') : wpAny (model X.prog X.w) X.A (setItem ov iv u) (fun _ s' => ∃ H', Inv X pins σ H' s' ∧ Q H') X.xe s := by
  unfold storeW at w
  split at w
  · obtain ⟨a, e1, rfl⟩ := p1
    split at w
    · rename_i xs e
      obtain ⟨b, vs, e2, kk, ps⟩ := r.lst e
      rw [e1] at e2; cases e2
      split at w
      · obtain ⟨j, ej, w⟩ := w
        obtain rfl := p2
        have n : Nx ρ H ρ (upd H a (.lst (vs.set j v))) := ⟨⟨[], by simp⟩, fun b o q z => by rw [upd_ne (fun y => z (by rw [y]; exact List.mem_of_getElem? e1) : b ≠ a)]; exact q, fun b q z => absurd q z⟩
        have wr := r.write e1 (u := .lst (vs.set j v)) (o := .lst (xs.set j z)) ⟨_, upd_same, (ps.set j p3).nx r n⟩
        exact set_list pins s σ H _ _ v ov iv u _ I ro ri rv ⟨a, vs, _, j, rfl, rfl, kk, by rw [← ps.len]; exact ej, k _ _ wr.2 wr.1 w⟩
      · exact w.elim
    · rename_i kvs e
      obtain ⟨ky, hk, hkk, hl, w⟩ := w
      obtain rfl : ov = Value.ref a := ro
      obtain ⟨H1, H2, I1, dp, n, r2⟩ := dic_put I r e e1 hk p2 p3 hkk hl
      exact d_setItem hu I1 dp ri rv fun s4 I4 => ⟨H2, I4, k _ _ n r2 w⟩
    · exact w.elim
  · exact w.elim
end
end Z

/-! ZsE: expressions in the hand layer's judgements, construct by construct. -/
namespace Z
open PySem PyProof.Rows L2

section
variable {X : Cx} {W : WX} {e a b c : Expr} {es : List Expr} {pos : Pos}

/-! ### argument lists -/
theorem za_nil {Γ : List Spec} : PA X [] (LA X W (wEs Γ [])) := pa_imp pa_nil fun σ H Q ⟨ρ, σz, h, F, E, s, kq, kx, w⟩ => by
  unfold wEs at w
  exact kq [] h ρ H [] Nx.refl s.hr rfl w
theorem za_cons {Γ : List Spec} {x : Ex} {xs : List Ex} (ha : PE X e (LE X W (wE Γ x))) (hr : PA X es (LA X W (wEs Γ xs))) (hs : starEach (e :: es) X.env = (false, eval e X.env) :: starEach es X.env) : PA X (e :: es) (LA X W (wEs Γ (x :: xs))) := by
  refine pa_imp (pa_cons ha hr hs) fun σ H Q ⟨ρ, σz, h, F, E, s, kq, kx, w⟩ => ?_
  unfold wEs at w
  refine ⟨ρ, σz, h, _, E, s, fun y h1 ρ1 H1 v n1 r1 p1 w1 => ?_, kx, w⟩
  refine ⟨ρ1, σz, h1, _, E, s.nx n1 r1, fun ys h2 ρ2 H2 vs n2 r2 ps w2 => ?_, kx.nx n1, w1⟩
  exact kq (y :: ys) h2 ρ2 H2 (v :: vs) (n1.trans n2) r2 ⟨v, vs, rfl, p1.nx r1 n2, ps⟩ w2

/-! ### displays -/
theorem ze_tup {Γ : List Spec} {xs : List Ex} {k : Nat} (ha : PA X es (LA X W (wEs Γ xs))) : PE X (.Tuple es k pos) (LE X W (wE Γ (.tup xs))) := by
  refine pe_imp (pe_tup ha) fun σ H Q ⟨ρ, σz, h, F, E, s, kq, kx, w⟩ => ?_
  unfold wE at w
  refine ⟨ρ, σz, h, _, E, s, fun ys h1 ρ1 H1 vs n1 r1 ps w1 => ?_, kx, w⟩
  exact ⟨by rw [← big_eq, ← ps.len]; exact w1.1, fun p hp => (kq.nx n1).newT r1 ps w1.2 hp⟩
theorem ze_xtp {Γ : List Spec} {xs : List Ex} {k : Nat} (ha : PA X es (LA X W (wEs Γ xs))) : PE X (.Tuple es k pos) (LE X W (wE Γ (.xtp xs))) := by
  refine pe_imp (Zh.pe_tupW ha) fun σ H Q ⟨ρ, σz, h, F, E, s, kq, kx, w⟩ => ?_
  unfold wE at w
  refine ⟨ρ, σz, h, _, E, s, fun ys h1 ρ1 H1 vs n1 r1 ps w1 => ?_, kx, w⟩
  exact ⟨by rw [← big_eq, ← ps.len]; exact w1.1, fun p o d hp => (kq.nx n1).newW r1 ps d w1.2 hp⟩
theorem ze_lst {Γ : List Spec} {xs : List Ex} (ha : PA X es (LA X W (wEs Γ xs))) : PE X (.List es pos) (LE X W (wE Γ (.lst xs))) := by
  refine pe_imp (pe_lst ha) fun σ H Q ⟨ρ, σz, h, F, E, s, kq, kx, w⟩ => ?_
  unfold wE at w
  refine ⟨ρ, σz, h, _, E, s, fun ys h1 ρ1 H1 vs n1 r1 ps w1 => ?_, kx, w⟩
  exact ⟨by rw [← big_eq, ← ps.len]; exact w1.1, fun p hp => (kq.nx n1).newL r1 ps w1.2 hp⟩
theorem ze_dct {Γ : List Spec} : PE X (.Dict [] [] pos) (LE X W (wE Γ .dct)) := by
  refine pe_imp pe_dnewK fun σ H Q ⟨ρ, σz, h, F, E, s, kq, kx, w⟩ => fun p hp => ?_
  unfold wE at w
  obtain ⟨r1, n1⟩ := s.hr.alloc hp (u := .dK []) (o := .dic []) (.inl ⟨[], upd_same, rfl⟩)
  exact kq (.ref h.length) _ _ _ _ n1 r1 ⟨p, by rw [← s.hr.len]; simp, rfl⟩ w

/-! ### operators -/
theorem ze_bin {Γ : List Spec} {x y : Ex} {o : Operator} (ha : PE X a (LE X W (wE Γ x))) (hb : PE X b (LE X W (wE Γ y))) : PE X (.BinOp a o b pos) (LE X W (wE Γ (.bin o x y))) := by
  refine pe_imp (pe_op (or_bin o) ha hb) fun σ H Q q => ?_
  have q' : LE X W (fun σz h F E => wE Γ x σz h (fun x h1 => wE Γ y σz h1 (fun y h2 => binW o x y h2 F) E) E) σ H Q := by
    obtain ⟨ρ, σz, h, F, E, s, kq, kx, w⟩ := q
    unfold wE at w
    exact ⟨ρ, σz, h, F, E, s, kq, kx, w⟩
  exact le_two (fun ρ h H x y v u F Q r p1 p2 kq w => ⟨ρ, h, x, y, F, r, p1, p2, kq, w⟩) σ H Q q'
theorem ze_neg {Γ : List Spec} {x : Ex} (ha : PE X a (LE X W (wE Γ x))) : PE X (.UnaryOp .USub a pos) (LE X W (wE Γ (.neg x))) := by
  refine pe_imp (pe_un un_neg ha) fun σ H Q ⟨ρ, σz, h, F, E, s, kq, kx, w⟩ => ?_
  unfold wE at w
  refine ⟨ρ, σz, h, _, E, s, fun y h1 ρ1 H1 v n1 r1 p1 w1 => ?_, kx, w⟩
  split at w1
  · obtain rfl := p1
    exact ⟨_, rfl, (kq.nx n1).int r1 w1⟩
  · exact w1.elim
theorem ze_not {Γ : List Spec} {x : Ex} (ha : PE X a (LE X W (wE Γ x))) : PE X (.UnaryOp .Not a pos) (LE X W (wE Γ (.not x))) := by
  refine pe_imp (pe_notT ha) fun σ H Q ⟨ρ, σz, h, F, E, s, kq, kx, w⟩ => ?_
  unfold wE at w
  refine ⟨ρ, σz, h, _, E, s, fun y h1 ρ1 H1 v n1 r1 p1 w1 => ?_, kx, w⟩
  obtain ⟨k, t, w2⟩ := tru_of r1 p1 w1
  exact ⟨k, t, (kq.nx n1).bl r1 w2⟩
theorem ze_and {Γ : List Spec} {x y : Ex} {r : List Expr} (ha : PE X a (LE X W (wE Γ x))) (hb : PE X (.BoolOp .And (b :: r) pos) (LE X W (wE Γ y))) : PE X (.BoolOp .And (a :: b :: r) pos) (LE X W (wE Γ (.and x y))) := by
  refine pe_imp (pe_andT ha hb) fun σ H Q ⟨ρ, σz, h, F, E, s, kq, kx, w⟩ => ?_
  unfold wE at w
  refine ⟨ρ, σz, h, _, E, s, fun y h1 ρ1 H1 v n1 r1 p1 w1 => ?_, kx, w⟩
  obtain ⟨k, t, w2⟩ := tru_of r1 p1 w1
  refine ⟨k, t, ?_⟩
  cases k with
  | true => exact iteT ⟨ρ1, σz, h1, F, E, s.nx n1 r1, kq.nx n1, kx.nx n1, w2⟩
  | false => exact iteF ((kq.nx n1).here r1 p1 w2)
theorem ze_or {Γ : List Spec} {x y : Ex} {r : List Expr} (ha : PE X a (LE X W (wE Γ x))) (hb : PE X (.BoolOp .Or (b :: r) pos) (LE X W (wE Γ y))) : PE X (.BoolOp .Or (a :: b :: r) pos) (LE X W (wE Γ (.or x y))) := by
  refine pe_imp (pe_orT ha hb) fun σ H Q ⟨ρ, σz, h, F, E, s, kq, kx, w⟩ => ?_
  unfold wE at w
  refine ⟨ρ, σz, h, _, E, s, fun y h1 ρ1 H1 v n1 r1 p1 w1 => ?_, kx, w⟩
  obtain ⟨k, t, w2⟩ := tru_of r1 p1 w1
  refine ⟨k, t, ?_⟩
  cases k with
  | true => exact iteT ((kq.nx n1).here r1 p1 w2)
  | false => exact iteF ⟨ρ1, σz, h1, F, E, s.nx n1 r1, kq.nx n1, kx.nx n1, w2⟩
theorem ze_one {Γ : List Spec} {x : Ex} {op : BoolOp} (ha : PE X a (LE X W (wE Γ x))) : PE X (.BoolOp op [a] pos) (LE X W (wE Γ x)) := pe_one ha
theorem ze_ife {Γ : List Spec} {x y z : Ex} (hc : PT X c (LT X W (wT Γ x))) (ha : PE X a (LE X W (wE Γ y))) (hb : PE X b (LE X W (wE Γ z))) : PE X (.IfExp c a b pos) (LE X W (wE Γ (.ife x y z))) := by
  refine pe_imp (pe_ifExp hc ha hb) fun σ H Q ⟨ρ, σz, h, F, E, s, kq, kx, w⟩ => ?_
  unfold wE at w
  refine ⟨ρ, σz, h, fun t h1 => if t = true then wE Γ y σz h1 F E else wE Γ z σz h1 F E, E, s, fun t h1 ρ1 H1 n1 r1 w1 => ?_, kx, w⟩
  cases t with
  | true => exact iteT ⟨ρ1, σz, h1, F, E, s.nx n1 r1, kq.nx n1, kx.nx n1, w1⟩
  | false => exact iteF ⟨ρ1, σz, h1, F, E, s.nx n1 r1, kq.nx n1, kx.nx n1, w1⟩
theorem ze_cmp {Γ : List Spec} {x y : Ex} {o : CmpOp} (hu : X.A.units + 65 < cLine) (ha : PE X a (LE X W (wE Γ x))) (hb : PE X b (LE X W (wE Γ y))) (hm : behindInMarks o b = false) : PE X (.Compare a [o] [b] pos) (LE X W (wE Γ (.cmp o x y))) := by
  refine pe_imp (pe_cmpR (or_cmp hu o) ha hb hm) fun σ H Q q => ?_
  have q' : LE X W (fun σz h F E => wE Γ x σz h (fun x h1 => wE Γ y σz h1 (fun y h2 => cmpO o x y h2 F) E) E) σ H Q := by
    obtain ⟨ρ, σz, h, F, E, s, kq, kx, w⟩ := q
    unfold wE at w
    exact ⟨ρ, σz, h, F, E, s, kq, kx, w⟩
  exact le_two (fun ρ h H x y v u F Q r p1 p2 kq w => ⟨ρ, h, x, y, F, r, p1, p2, kq, w⟩) σ H Q q'

theorem le_chn {wa wb wc : WE} {o o' : CmpOp} (σ : L2.St) (H : Hp) (Q : VK)
    (q : LE X W (fun σz h F E => wa σz h (fun x h1 => wb σz h1 (fun y h2 => cmpW o x y h2 fun t => if t = true then wc σz h2 (fun z h3 => cmpW o' y z h3 fun u => F (.bl u) h3) E else F (.bl false) h2) E) E) σ H Q) :
    tChain (LR2 X (cmpO o)) (LR2 X (cmpO o')) (LE X W wa) (LE X W wb) (LE X W wc) σ H Q := by
  obtain ⟨ρ, σz, h, F, E, s, kq, kx, w⟩ := q
  refine ⟨ρ, σz, h, _, E, s, fun x h1 ρ1 H1 v n1 r1 p1 w1 => ?_, kx, w⟩
  refine ⟨ρ1, σz, h1, _, E, s.nx n1 r1, fun y h2 ρ2 H2 u n2 r2 p2 w2 => ?_, kx.nx n1, w1⟩
  refine ⟨ρ2, h2, x, y, fun z h3 => match z with | .bl t => if t = true then wc σz h3 (fun z h4 => cmpW o' y z h4 fun u => F (.bl u) h4) E else F (.bl false) h3 | _ => False, r2, p1.nx r1 n2, p2, fun z h3 ρ3 H3 zv n3 r3 p3 w3 => ?_, w2⟩
  cases z with
  | bl t =>
    obtain rfl := p3
    refine ⟨t, rfl, ?_⟩
    have n13 := n1.trans (n2.trans n3)
    cases t with
    | true =>
      refine iteT ⟨ρ3, σz, h3, _, E, (s.nx n1 r1).nx (n2.trans n3) r3, fun z h4 ρ4 H4 zv n4 r4 p4 w4 => ?_, kx.nx n13, w3⟩
      exact ⟨ρ4, h4, y, z, F, r4, (p2.nx r2 n3).nx r3 n4, p4, kq.nx (n13.trans n4), w4⟩
    | false => exact iteF ((kq.nx n13).bl r3 w3)
  | _ => exact w3.elim
theorem ze_chn {Γ : List Spec} {x y z : Ex} {o o' : CmpOp} (hu : X.A.units + 65 < cLine) (ha : PE X a (LE X W (wE Γ x))) (hb : PE X b (LE X W (wE Γ y))) (hc : PE X c (LE X W (wE Γ z))) (hm : lastMarks [o, o'] [b, c] = false) : PE X (.Compare a [o, o'] [b, c] pos) (LE X W (wE Γ (.chn o o' x y z))) := by
  refine pe_imp (pe_chain (or_cmp hu o) (or_cmp hu o') ha hb hc hm) fun σ H Q q => ?_
  refine le_chn σ H Q ?_
  obtain ⟨ρ, σz, h, F, E, s, kq, kx, w⟩ := q
  unfold wE at w
  exact ⟨ρ, σz, h, F, E, s, kq, kx, w⟩

theorem le_chn3 {wa wb wc wd : WE} {o o' o'' : CmpOp} (σ : L2.St) (H : Hp) (Q : VK)
    (q : LE X W (fun σz h F E => wa σz h (fun x h1 => wb σz h1 (fun y h2 => cmpW o x y h2 fun t => if t = true then wc σz h2 (fun z h3 => cmpW o' y z h3 fun u => if u = true then wd σz h3 (fun w h4 => cmpW o'' z w h4 fun u => F (.bl u) h4) E else F (.bl false) h3) E else F (.bl false) h2) E) E) σ H Q) :
    Zh.tChain3 (LR2 X (cmpO o)) (LR2 X (cmpO o')) (LR2 X (cmpO o'')) (LE X W wa) (LE X W wb) (LE X W wc) (LE X W wd) σ H Q := by
  obtain ⟨ρ, σz, h, F, E, s, kq, kx, w⟩ := q
  refine ⟨ρ, σz, h, _, E, s, fun x h1 ρ1 H1 v n1 r1 p1 w1 => ?_, kx, w⟩
  refine ⟨ρ1, σz, h1, _, E, s.nx n1 r1, fun y h2 ρ2 H2 u n2 r2 p2 w2 => ?_, kx.nx n1, w1⟩
  refine ⟨ρ2, h2, x, y, fun z h3 => match z with | .bl t => if t = true then wc σz h3 (fun z h4 => cmpW o' y z h4 fun u => if u = true then wd σz h4 (fun w h5 => cmpW o'' z w h5 fun u => F (.bl u) h5) E else F (.bl false) h4) E else F (.bl false) h3 | _ => False, r2, p1.nx r1 n2, p2, fun z h3 ρ3 H3 zv n3 r3 p3 w3 => ?_, w2⟩
  cases z with
  | bl t =>
    obtain rfl := p3
    refine ⟨t, rfl, ?_⟩
    have n13 := n1.trans (n2.trans n3)
    cases t with
    | true =>
      refine iteT ⟨ρ3, σz, h3, _, E, (s.nx n1 r1).nx (n2.trans n3) r3, fun z h4 ρ4 H4 zv n4 r4 p4 w4 => ?_, kx.nx n13, w3⟩
      refine ⟨ρ4, h4, y, z, fun z' h5 => match z' with | .bl t => if t = true then wd σz h5 (fun w h5 => cmpW o'' z w h5 fun u => F (.bl u) h5) E else F (.bl false) h5 | _ => False, r4, (p2.nx r2 n3).nx r3 n4, p4, fun z' h5 ρ5 H5 zv5 n5 r5 p5 w5 => ?_, w4⟩
      cases z' with
      | bl t =>
        obtain rfl := p5
        refine ⟨t, rfl, ?_⟩
        have n15 := n13.trans (n4.trans n5)
        cases t with
        | true =>
          refine iteT ⟨ρ5, σz, h5, _, E, ((s.nx n1 r1).nx (n2.trans n3) r3).nx (n4.trans n5) r5, fun z6 h6 ρ6 H6 zv6 n6 r6 p6 w6 => ?_, kx.nx n15, w5⟩
          exact ⟨ρ6, h6, z, z6, F, r6, (p4.nx r4 n5).nx r5 n6, p6, kq.nx (n15.trans n6), w6⟩
        | false => exact iteF ((kq.nx n15).bl r5 w5)
      | _ => exact w5.elim
    | false => exact iteF ((kq.nx n13).bl r3 w3)
  | _ => exact w3.elim
theorem ze_chn3 {Γ : List Spec} {x y z w : Ex} {d : Expr} {o o' o'' : CmpOp} (hu : X.A.units + 65 < cLine) (ha : PE X a (LE X W (wE Γ x))) (hb : PE X b (LE X W (wE Γ y))) (hc : PE X c (LE X W (wE Γ z))) (hd : PE X d (LE X W (wE Γ w))) (hm : lastMarks [o, o', o''] [b, c, d] = false) : PE X (.Compare a [o, o', o''] [b, c, d] pos) (LE X W (wE Γ (.chn3 o o' o'' x y z w))) := by
  refine pe_imp (Zh.pe_chain3 (or_cmp hu o) (or_cmp hu o') (or_cmp hu o'') ha hb hc hd hm) fun σ H Q q => ?_
  refine le_chn3 σ H Q ?_
  obtain ⟨ρ, σz, h, F, E, s, kq, kx, w⟩ := q
  unfold wE at w
  exact ⟨ρ, σz, h, F, E, s, kq, kx, w⟩
theorem zt_chn3 {Γ : List Spec} {x y z w : Ex} {d : Expr} {o o' o'' : CmpOp} (hu : X.A.units + 65 < cLine) (ha : PE X a (LE X W (wE Γ x))) (hb : PE X b (LE X W (wE Γ y))) (hc : PE X c (LE X W (wE Γ z))) (hd : PE X d (LE X W (wE Γ w))) (hm : lastMarks [o, o', o''] [b, c, d] = false) : PT X (.Compare a [o, o', o''] [b, c, d] pos) (LT X W (wT Γ (.chn3 o o' o'' x y z w))) := by
  refine pt_imp (Zh.pt_chain3 (or_cmp hu o) (or_cmp hu o') (or_cmp hu o'') ha hb hc hd hm) fun σ H Q ⟨ρ, σz, h, F, E, s, kq, kx, w⟩ => ?_
  unfold wT wE at w
  refine le_chn3 σ H _ ⟨ρ, σz, h, fun z h1 => match z with | .bl b => F b h1 | _ => False, E, s, fun z h1 ρ1 H1 v n1 r1 p1 w1 => ?_, kx, w⟩
  cases z with
  | bl b => obtain rfl := p1; exact ⟨b, rfl, kq b h1 ρ1 H1 n1 r1 w1⟩
  | _ => exact w1.elim

/-! ### tests -/
/-- a value's truth, where the model asks no other way -/
theorem zt_of {Γ : List Spec} {x : Ex} (ha : PE X e (LE X W (wE Γ x))) (he : ∀ whole, isTrue e X.env whole = (do let v ← whole; standAt e.pos; holding [v] (truthy v))) : PT X e (LT X W (wT Γ x)) := by
  refine pt_imp (pt_truth ha he) fun σ H Q ⟨ρ, σz, h, F, E, s, kq, kx, w⟩ => ?_
  refine ⟨ρ, σz, h, _, E, s, fun y h1 ρ1 H1 v n1 r1 p1 w1 => ?_, kx, w⟩
  obtain ⟨k, t, w2⟩ := tru_of r1 p1 w1
  exact ⟨k, t, kq k h1 ρ1 H1 n1 r1 w2⟩
/-- a reading that ends in a bool -/
theorem lt_of_le {Γ : List Spec} {x : Ex} {t : TE} (k : ∀ σ H Q, LE X W (wE Γ x) σ H Q → t σ H Q) (σ : L2.St) (H : Hp) (Q : Bool → Hp → Prop) (q : LT X W (wT Γ x) σ H Q)
    (hb : ∀ σz h F E, wE Γ x σz h F E → wE Γ x σz h (fun y h1 => ∃ b, y = .bl b ∧ F (.bl b) h1) E) : tTest t σ H Q := by
  obtain ⟨ρ, σz, h, F, E, s, kq, kx, w⟩ := q
  refine k σ H _ ⟨ρ, σz, h, _, E, s, fun y h1 ρ1 H1 v n1 r1 p1 w1 => ?_, kx, hb σz h _ E w⟩
  obtain ⟨b, rfl, w1⟩ := w1
  obtain rfl := p1
  exact ⟨b, rfl, kq b h1 ρ1 H1 n1 r1 w1⟩
theorem zt_cmp {Γ : List Spec} {x y : Ex} {o : CmpOp} (hu : X.A.units + 65 < cLine) (ha : PE X a (LE X W (wE Γ x))) (hb : PE X b (LE X W (wE Γ y))) (hm : behindInMarks o b = false) : PT X (.Compare a [o] [b] pos) (LT X W (wT Γ (.cmp o x y))) := by
  refine pt_imp (pt_cmpR (or_cmp hu o) ha hb hm) fun σ H Q ⟨ρ, σz, h, F, E, s, kq, kx, w⟩ => ?_
  have q' : LE X W (fun σz h F E => wE Γ x σz h (fun x h1 => wE Γ y σz h1 (fun y h2 => cmpO o x y h2 F) E) E) σ H (fun z H' => ∃ k, z = .bl k ∧ Q k H') := by
    unfold wT wE at w
    refine ⟨ρ, σz, h, fun z h1 => match z with | .bl b => F b h1 | _ => False, E, s, fun z h1 ρ1 H1 v n1 r1 p1 w1 => ?_, kx, w⟩
    cases z with
    | bl b => obtain rfl := p1; exact ⟨b, rfl, kq b h1 ρ1 H1 n1 r1 w1⟩
    | _ => exact w1.elim
  exact le_two (fun ρ h H x y v u F Q r p1 p2 kq w => ⟨ρ, h, x, y, F, r, p1, p2, kq, w⟩) σ H _ q'
theorem zt_chn {Γ : List Spec} {x y z : Ex} {o o' : CmpOp} (hu : X.A.units + 65 < cLine) (ha : PE X a (LE X W (wE Γ x))) (hb : PE X b (LE X W (wE Γ y))) (hc : PE X c (LE X W (wE Γ z))) (hm : lastMarks [o, o'] [b, c] = false) : PT X (.Compare a [o, o'] [b, c] pos) (LT X W (wT Γ (.chn o o' x y z))) := by
  refine pt_imp (pt_chain (or_cmp hu o) (or_cmp hu o') ha hb hc hm) fun σ H Q ⟨ρ, σz, h, F, E, s, kq, kx, w⟩ => ?_
  unfold wT wE at w
  refine le_chn σ H _ ⟨ρ, σz, h, fun z h1 => match z with | .bl b => F b h1 | _ => False, E, s, fun z h1 ρ1 H1 v n1 r1 p1 w1 => ?_, kx, w⟩
  cases z with
  | bl b => obtain rfl := p1; exact ⟨b, rfl, kq b h1 ρ1 H1 n1 r1 w1⟩
  | _ => exact w1.elim
theorem zt_not {Γ : List Spec} {x : Ex} (ha : PT X a (LT X W (wT Γ x))) : PT X (.UnaryOp .Not a pos) (LT X W (wT Γ (.not x))) := by
  refine pt_imp (pt_not ha) fun σ H Q ⟨ρ, σz, h, F, E, s, kq, kx, w⟩ => ?_
  unfold wT wE at w
  exact ⟨ρ, σz, h, fun b h1 => F (!b) h1, E, s, fun b h1 ρ1 H1 n1 r1 w1 => kq (!b) h1 ρ1 H1 n1 r1 w1, kx, w⟩
/-- the truth of a value, where it has one -/
def truV (h : Hep) : PV → Option Bool
  | .non => some false
  | .bl b => some b
  | .int i => some (i != 0)
  | .str s => if s.length ≤ big then some ((s.length : Int) != 0) else none
  | .tup xs => some !xs.isEmpty
  | .ils xs => some !xs.isEmpty
  | .itp xs => some !xs.isEmpty
  | .ref r => match h[r]? with | some (.lst xs) => some !xs.isEmpty | _ => none
  | .exc _ _ _ => none
theorem truW_iff {h : Hep} {x : PV} {K : Bool → Prop} : truW h x K ↔ ∃ b, truV h x = some b ∧ K b := by
  cases x with
  | str s =>
    show (s.length ≤ big ∧ K ((s.length : Int) != 0)) ↔ ∃ b, (if s.length ≤ big then some ((s.length : Int) != 0) else none) = some b ∧ K b
    by_cases z : s.length ≤ big
    · rw [if_pos z]
      exact ⟨fun q => ⟨_, rfl, q.2⟩, fun ⟨b, e, q⟩ => ⟨z, by cases e; exact q⟩⟩
    · rw [if_neg z]
      exact ⟨fun q => absurd q.1 z, fun ⟨b, e, q⟩ => by cases e⟩
  | ref i =>
    show getL h i (fun xs => K (!xs.isEmpty)) ↔ ∃ b, (match h[i]? with | some (.lst xs) => some !xs.isEmpty | _ => none) = some b ∧ K b
    unfold getL
    cases g : h[i]? with
    | none => exact ⟨fun q => False.elim q, fun ⟨b, e, q⟩ => by cases e⟩
    | some o =>
      cases o with
      | lst xs => exact ⟨fun q => ⟨_, rfl, q⟩, fun ⟨b, e, q⟩ => by cases e; exact q⟩
      | _ => exact ⟨fun q => False.elim q, fun ⟨b, e, q⟩ => by cases e⟩
  | exc c ns xs => exact ⟨fun q => False.elim q, fun ⟨b, e, q⟩ => by cases e⟩
  | _ => exact ⟨fun q => ⟨_, rfl, q⟩, fun ⟨b, e, q⟩ => by cases e; exact q⟩
/-- what a test asks of a conjunction -/
theorem lt_and {Γ : List Spec} {x y : Ex} (σ : L2.St) (H : Hp) (Q : Bool → Hp → Prop) (q : LT X W (wT Γ (.and x y)) σ H Q) : tAnd (LT X W (wT Γ x)) (LT X W (wT Γ y)) σ H Q := by
  obtain ⟨ρ, σz, h, F, E, s, kq, kx, w⟩ := q
  unfold wT wE at w
  refine ⟨ρ, σz, h, fun t h1 => if t = true then wT Γ y σz h1 F E else F false h1, E, s, fun t h1 ρ1 H1 n1 r1 w1 => ?_, kx, ?_⟩
  · cases t with
    | true => exact iteT ⟨ρ1, σz, h1, F, E, s.nx n1 r1, fun b h2 ρ2 H2 n2 r2 w2 => kq b h2 ρ2 H2 (n1.trans n2) r2 w2, kx.nx n1, w1⟩
    | false => exact iteF (kq false h1 ρ1 H1 n1 r1 w1)
  · unfold wT
    refine cast (congrArg (fun z => wE Γ x σz h z E) ?_) w
    funext v h1
    refine propext ⟨fun q => ?_, fun q => ?_⟩
    · obtain ⟨b, e, q⟩ := truW_iff.mp q
      refine truW_iff.mpr ⟨b, e, ?_⟩
      cases b with
      | true => exact q
      | false =>
        rw [if_neg Bool.false_ne_true] at q
        obtain ⟨b2, e2, q2⟩ := truW_iff.mp (show truW h1 v (fun b => F b h1) from q)
        rw [e] at e2
        cases e2
        exact iteF q2
    · obtain ⟨b, e, q⟩ := truW_iff.mp q
      refine truW_iff.mpr ⟨b, e, ?_⟩
      cases b with
      | true => exact q
      | false =>
        rw [if_neg Bool.false_ne_true] at q
        exact iteF (truW_iff.mpr ⟨false, e, q⟩)
theorem lt_or {Γ : List Spec} {x y : Ex} (σ : L2.St) (H : Hp) (Q : Bool → Hp → Prop) (q : LT X W (wT Γ (.or x y)) σ H Q) : tOr (LT X W (wT Γ x)) (LT X W (wT Γ y)) σ H Q := by
  obtain ⟨ρ, σz, h, F, E, s, kq, kx, w⟩ := q
  unfold wT wE at w
  refine ⟨ρ, σz, h, fun t h1 => if t = true then F true h1 else wT Γ y σz h1 F E, E, s, fun t h1 ρ1 H1 n1 r1 w1 => ?_, kx, ?_⟩
  · cases t with
    | false => exact iteF ⟨ρ1, σz, h1, F, E, s.nx n1 r1, fun b h2 ρ2 H2 n2 r2 w2 => kq b h2 ρ2 H2 (n1.trans n2) r2 w2, kx.nx n1, w1⟩
    | true => exact iteT (kq true h1 ρ1 H1 n1 r1 w1)
  · unfold wT
    refine cast (congrArg (fun z => wE Γ x σz h z E) ?_) w
    funext v h1
    refine propext ⟨fun q => ?_, fun q => ?_⟩
    · obtain ⟨b, e, q⟩ := truW_iff.mp q
      refine truW_iff.mpr ⟨b, e, ?_⟩
      cases b with
      | false => exact q
      | true =>
        rw [if_pos rfl] at q
        obtain ⟨b2, e2, q2⟩ := truW_iff.mp (show truW h1 v (fun b => F b h1) from q)
        rw [e] at e2
        cases e2
        exact iteT q2
    · obtain ⟨b, e, q⟩ := truW_iff.mp q
      refine truW_iff.mpr ⟨b, e, ?_⟩
      cases b with
      | false => exact q
      | true =>
        rw [if_pos rfl] at q
        exact iteT (truW_iff.mpr ⟨true, e, q⟩)
theorem zw_and {Γ : List Spec} {x y : Ex} {r : List Expr} (ha : PT X a (LT X W (wT Γ x))) (hb : PW X (.BoolOp .And (b :: r) pos) (LT X W (wT Γ y))) : PW X (.BoolOp .And (a :: b :: r) pos) (LT X W (wT Γ (.and x y))) := pw_imp (pw_and ha hb) lt_and
theorem zw_or {Γ : List Spec} {x y : Ex} {r : List Expr} (ha : PT X a (LT X W (wT Γ x))) (hb : PW X (.BoolOp .Or (b :: r) pos) (LT X W (wT Γ y))) : PW X (.BoolOp .Or (a :: b :: r) pos) (LT X W (wT Γ (.or x y))) := pw_imp (pw_or ha hb) lt_or
theorem zt_ife {Γ : List Spec} {x y z : Ex} (hc : PT X c (LT X W (wT Γ x))) (ha : PT X a (LT X W (wT Γ y))) (hb : PT X b (LT X W (wT Γ z))) : PT X (.IfExp c a b pos) (LT X W (wT Γ (.ife x y z))) := by
  refine ⟨fun pins s σ H Q I ⟨ρ, σz, h, F, E, sr, kq, kx, w⟩ => ?_⟩
  unfold wT wE at w
  refine isTrue_IfExp (thn (hc.run pins s σ H (fun t H1 => if t = true then LT X W (wT Γ y) σ H1 Q else LT X W (wT Γ z) σ H1 Q) I ⟨ρ, σz, h, fun t h1 => if t = true then wT Γ y σz h1 F E else wT Γ z σz h1 F E, E, sr, fun t h1 ρ1 H1 n1 r1 w1 => ?_, kx, w⟩) fun t s1 ⟨H1, I1, q1⟩ => ?_)
  · cases t with
    | true => exact iteT ⟨ρ1, σz, h1, F, E, sr.nx n1 r1, fun b h2 ρ2 H2 n2 r2 w2 => kq b h2 ρ2 H2 (n1.trans n2) r2 w2, kx.nx n1, w1⟩
    | false => exact iteF ⟨ρ1, σz, h1, F, E, sr.nx n1 r1, fun b h2 ρ2 H2 n2 r2 w2 => kq b h2 ρ2 H2 (n1.trans n2) r2 w2, kx.nx n1, w1⟩
  · cases t with
    | true => exact ha.run pins s1 σ H1 Q I1 q1
    | false => exact hb.run pins s1 σ H1 Q I1 q1
end
end Z

/-! ZsF: subscripts, built-ins and methods by values, calls of defs. -/
namespace Z
open PySem PyProof.Rows L2

section
variable {X : Cx} {W : WX} {e a b c : Expr} {es : List Expr} {pos : Pos}

/-! ### subscripts, slices -/
theorem ze_idx {Γ : List Spec} {x y : Ex} (hu : X.A.units + 1 < cLine) (ha : PE X a (LE X W (wE Γ x))) (hb : PE X b (LE X W (wE Γ y))) (hs : PlainIx b) : PE X (.Subscript a b pos) (LE X W (wE Γ (.idx x y))) := by
  refine pe_imp (pe_ix (ix_all hu) ha hb hs) fun σ H Q q => ?_
  have q' : LE X W (fun σz h F E => wE Γ x σz h (fun x h1 => wE Γ y σz h1 (fun y h2 => itemW x y h2 F) E) E) σ H Q := by
    obtain ⟨ρ, σz, h, F, E, s, kq, kx, w⟩ := q
    unfold wE at w
    exact ⟨ρ, σz, h, F, E, s, kq, kx, w⟩
  exact le_two (fun ρ h H x y v u F Q r p1 p2 kq w => ⟨ρ, h, x, y, F, r, p1, p2, kq, w⟩) σ H Q q'
theorem zo_none {Γ : List Spec} : PO X none (LO X W (wO Γ none)) := ⟨fun pins s σ H Q I ⟨ρ, σz, h, F, E, sr, kq, kx, w⟩ => po_none.run pins s σ H Q I (by
  unfold wO at w
  exact kq none h ρ H Nx.refl sr.hr w)⟩
theorem zo_some {Γ : List Spec} {x : Ex} (ha : PE X a (LE X W (wE Γ x))) : PO X (some a) (LO X W (wO Γ (some x))) := ⟨fun pins s σ H Q I ⟨ρ, σz, h, F, E, sr, kq, kx, w⟩ => (po_some ha).run pins s σ H Q I (by
  unfold wO at w
  refine ⟨ρ, σz, h, _, E, sr, fun y h1 ρ1 H1 v n1 r1 p1 w1 => ?_, kx, w⟩
  split at w1
  · obtain rfl := p1
    exact ⟨_, rfl, kq _ h1 ρ1 H1 n1 r1 w1⟩
  · exact w1.elim)⟩
theorem ze_slc {Γ : List Spec} {x : Ex} {l u : Option Ex} {lo hi : Option Expr} {p2 : Pos} (ha : PE X a (LE X W (wE Γ x))) (hl : PO X lo (LO X W (wO Γ l))) (hu : PO X hi (LO X W (wO Γ u))) : PE X (.Subscript a (.Slice lo hi none p2) pos) (LE X W (wE Γ (.slc x l u))) := by
  refine pe_imp (pe_slice sl_all ha hl hu) fun σ H Q ⟨ρ, σz, h, F, E, s, kq, kx, w⟩ => ?_
  unfold wE at w
  refine ⟨ρ, σz, h, _, E, s, fun y h1 ρ1 H1 v n1 r1 p1 w1 => ?_, kx, w⟩
  refine ⟨ρ1, σz, h1, _, E, s.nx n1 r1, fun o h2 ρ2 H2 n2 r2 w2 => ?_, kx.nx n1, w1⟩
  refine ⟨ρ2, σz, h2, _, E, (s.nx n1 r1).nx n2 r2, fun o' h3 ρ3 H3 n3 r3 w3 => ?_, (kx.nx n1).nx n2, w2⟩
  exact ⟨ρ3, h3, y, F, r3, (p1.nx r1 n2).nx r2 n3, kq.nx (n1.trans (n2.trans n3)), w3⟩

/-! ### built-ins by values -/
def LRC (X : Cx) (op : List PV → Hep → KQ → Prop) : List V → Hp → VK → Prop := fun vs H Q => ∃ (ρ : List Addr) (h : Hep) (xs : List PV) (F : KQ), HR X.K X.mg ρ h H ∧ Reps X.K ρ H xs vs ∧ KQok X ρ H F Q ∧ op xs h F
theorem callr_imp {f : Value} {r r' : List V → Hp → VK → Prop} (h : CallR X f r) (k : ∀ vs H Q, r' vs H Q → r vs H Q) : CallR X f r' := fun pins s σ H xs us Q I rs q => h pins s σ H xs us Q I rs (k _ _ _ q)
theorem reps1 {ρ : List Addr} {H : Hp} {x : PV} {vs : List V} (q : Reps X.K ρ H [x] vs) : ∃ v, vs = [v] ∧ Rep X.K ρ H x v := by
  obtain ⟨v, r, rfl, p, t⟩ := q
  cases t
  exact ⟨v, rfl, p⟩
theorem reps2 {ρ : List Addr} {H : Hp} {x y : PV} {vs : List V} (q : Reps X.K ρ H [x, y] vs) : ∃ v u, vs = [v, u] ∧ Rep X.K ρ H x v ∧ Rep X.K ρ H y u := by
  obtain ⟨v, r, rfl, p, t⟩ := q
  obtain ⟨u, rfl, p2⟩ := reps1 t
  exact ⟨v, u, rfl, p, p2⟩
theorem listW_some {ρ : List Addr} {h : Hep} {H : Hp} {x : PV} {v : V} {F : List PV → Prop} (r : HR X.K X.mg ρ h H) (p : Rep X.K ρ H x v) (w : listW h x F) : ∃ a vs xs, v = .ref a ∧ SqL X.K H a vs ∧ Reps X.K ρ H xs vs ∧ F xs := by
  unfold listW at w
  split at w
  · obtain ⟨xs, e, w⟩ := getL_some w
    obtain ⟨a, e1, rfl⟩ := p
    obtain ⟨b, vs, e2, k, ps⟩ := r.lst e
    rw [e1] at e2; cases e2
    exact ⟨a, vs, xs, rfl, SqL.of k, ps, w⟩
  · obtain ⟨a, vs, rfl, t, ps⟩ := p
    exact ⟨a, vs, _, rfl, t.sq, ps, w⟩
  · exact w.elim
theorem seqW_some {ρ : List Addr} {h : Hep} {H : Hp} {x : PV} {v : V} {F : List PV → Prop} (r : HR X.K X.mg ρ h H) (p : Rep X.K ρ H x v) (w : seqW h x F) : ∃ a vs xs, v = .ref a ∧ (SqL X.K H a vs ∨ SqT X.K H a vs) ∧ Reps X.K ρ H xs vs ∧ F xs := by
  unfold seqW at w
  split at w
  · obtain ⟨xs, e, w⟩ := getL_some w
    obtain ⟨a, e1, rfl⟩ := p
    obtain ⟨b, vs, e2, k, ps⟩ := r.lst e
    rw [e1] at e2; cases e2
    exact ⟨a, vs, xs, rfl, .inl (SqL.of k), ps, w⟩
  · obtain ⟨a, vs, rfl, t, ps⟩ := p
    exact ⟨a, vs, _, rfl, .inl t.sq, ps, w⟩
  · obtain ⟨a, vs, rfl, t, ps⟩ := p
    exact ⟨a, vs, _, rfl, .inr t.sq, ps, w⟩
  · obtain ⟨a, vs, rfl, t, ps⟩ := p
    exact ⟨a, vs, _, rfl, .inr t.sq, ps, w⟩
  · exact w.elim

theorem cb_len : CallR X (.builtin "len") (LRC X (biW .len)) := by
  intro pins s σ H vs us Q I rs q
  obtain ⟨ρ, h, xs, F, r, ps, kq, w⟩ := q
  match xs, w with
  | [.str z], ⟨l, w⟩ =>
    obtain ⟨v, rfl, p⟩ := reps1 ps
    obtain rfl := p
    exact call_len_str pins s σ H _ us Q I rs ⟨z, rfl, by rw [← big_eq]; exact l, kq.int r w⟩
  | [.tup ys], w =>
    obtain ⟨v, rfl, p⟩ := reps1 ps
    obtain ⟨a, vs, rfl, t, ps⟩ := p
    exact call_len_seq pins s σ H _ us Q I rs ⟨a, vs, rfl, .inr t.sq, by rw [← ps.len]; exact kq.int r w⟩
  | [.itp ys], w =>
    obtain ⟨v, rfl, p⟩ := reps1 ps
    obtain ⟨a, vs, rfl, t, ps⟩ := p
    exact call_len_seq pins s σ H _ us Q I rs ⟨a, vs, rfl, .inr t.sq, by rw [← ps.len]; exact kq.int r w⟩
  | [.ils ys], w =>
    obtain ⟨v, rfl, p⟩ := reps1 ps
    obtain ⟨a, vs, rfl, t, ps⟩ := p
    exact call_len_seq pins s σ H _ us Q I rs ⟨a, vs, rfl, .inl t.sq, by rw [← ps.len]; exact kq.int r w⟩
  | [.ref i], w =>
    obtain ⟨v, rfl, p⟩ := reps1 ps
    obtain ⟨ys, e, w⟩ := getL_some (show getL h i _ from w)
    obtain ⟨a, e1, rfl⟩ := p
    obtain ⟨b, ws, e2, k, ps⟩ := r.lst e
    rw [e1] at e2; cases e2
    exact call_len_seq pins s σ H _ us Q I rs ⟨a, ws, rfl, .inl (SqL.of k), by rw [← ps.len]; exact kq.int r w⟩
theorem max_ite (i j : Int) : max i j = if j > i then j else i := by
  by_cases h : j > i
  · rw [if_pos h]; omega
  · rw [if_neg h]; omega
theorem min_ite (i j : Int) : min i j = if j < i then j else i := by
  by_cases h : j < i
  · rw [if_pos h]; omega
  · rw [if_neg h]; omega
theorem cb_max2 (hc : X.calm = true) : CallR X (.builtin "max") (LRC X (biW .max2)) := callr_imp (call_max2 hc) fun vs H Q q => by
  obtain ⟨ρ, h, xs, F, r, ps, kq, w⟩ := q
  match xs, w with
  | [.int i, .int j], w =>
    obtain ⟨v, u, rfl, p1, p2⟩ := reps2 ps
    obtain rfl := p1
    obtain rfl := p2
    exact ⟨i, j, rfl, by rw [← max_ite]; exact kq.int r w⟩
theorem cb_min2 (hc : X.calm = true) : CallR X (.builtin "min") (LRC X (biW .min2)) := callr_imp (call_min2 hc) fun vs H Q q => by
  obtain ⟨ρ, h, xs, F, r, ps, kq, w⟩ := q
  match xs, w with
  | [.int i, .int j], w =>
    obtain ⟨v, u, rfl, p1, p2⟩ := reps2 ps
    obtain rfl := p1
    obtain rfl := p2
    exact ⟨i, j, rfl, by rw [← min_ite]; exact kq.int r w⟩
theorem reps3 {ρ : List Addr} {H : Hp} {x y z : PV} {vs : List V} (q : Reps X.K ρ H [x, y, z] vs) : ∃ v u w, vs = [v, u, w] ∧ Rep X.K ρ H x v ∧ Rep X.K ρ H y u ∧ Rep X.K ρ H z w := by
  obtain ⟨v, r, rfl, p, t⟩ := q
  obtain ⟨u, w, rfl, p2, p3⟩ := reps2 t
  exact ⟨v, u, w, rfl, p, p2, p3⟩
theorem nuLt_int (i j : Int) : nuLt (.int i) (.int j) = some (decide (i < j)) := rfl
theorem nuMax2_int (i j : Int) : nuMax2 (.int i) (.int j) = some (.int (max i j)) := by
  unfold nuMax2
  rw [nuLt_int, Option.map_some]
  congr 1
  by_cases c : i < j
  · rw [if_pos (by simpa using c)]; congr 1; omega
  · rw [if_neg (by simpa using c)]; congr 1; omega
theorem nuMin2_int (i j : Int) : nuMin2 (.int i) (.int j) = some (.int (min i j)) := by
  unfold nuMin2
  rw [nuLt_int, Option.map_some]
  congr 1
  by_cases c : j < i
  · rw [if_pos (by simpa using c)]; congr 1; omega
  · rw [if_neg (by simpa using c)]; congr 1; omega
theorem cb_max3 (hc : X.calm = true) : CallR X (.builtin "max") (LRC X (biW .max3)) := callr_imp (call_max3Nu hc) fun vs H Q q => by
  obtain ⟨ρ, h, xs, F, r, ps, kq, w⟩ := q
  match xs, w with
  | [.int i, .int j, .int k], w =>
    obtain ⟨v, u, t, rfl, p1, p2, p3⟩ := reps3 ps
    obtain rfl := p1
    obtain rfl := p2
    obtain rfl := p3
    exact ⟨_, _, _, _, rfl, by unfold nuMax3; rw [nuMax2_int, Option.bind_some, nuMax2_int], kq.int r w⟩
theorem cb_min3 (hc : X.calm = true) : CallR X (.builtin "min") (LRC X (biW .min3)) := callr_imp (call_min3Nu hc) fun vs H Q q => by
  obtain ⟨ρ, h, xs, F, r, ps, kq, w⟩ := q
  match xs, w with
  | [.int i, .int j, .int k], w =>
    obtain ⟨v, u, t, rfl, p1, p2, p3⟩ := reps3 ps
    obtain rfl := p1
    obtain rfl := p2
    obtain rfl := p3
    exact ⟨_, _, _, _, rfl, by unfold nuMin3; rw [nuMin2_int, Option.bind_some, nuMin2_int], kq.int r w⟩
theorem maxL_mem : ∀ ns : List Int, ns ≠ [] → maxL ns ∈ ns ∧ ∀ y ∈ ns, y ≤ maxL ns
  | [], h => absurd rfl h
  | [x], _ => ⟨by simp [maxL], fun y hy => by simp [maxL] at hy ⊢; omega⟩
  | x :: y :: r, _ => by
    obtain ⟨h1, h2⟩ := maxL_mem (y :: r) (by simp)
    have e : maxL (x :: y :: r) = max x (maxL (y :: r)) := rfl
    refine ⟨?_, fun z hz => ?_⟩
    · rw [e]
      by_cases hx : x ≤ maxL (y :: r)
      · rw [Int.max_eq_right hx]; exact List.mem_cons_of_mem _ h1
      · rw [Int.max_eq_left (by omega)]; exact List.mem_cons_self
    · rw [e]
      rcases List.mem_cons.mp hz with rfl | hz
      · omega
      · have := h2 z hz; omega
theorem minL_mem : ∀ ns : List Int, ns ≠ [] → minL ns ∈ ns ∧ ∀ y ∈ ns, minL ns ≤ y
  | [], h => absurd rfl h
  | [x], _ => ⟨by simp [minL], fun y hy => by simp [minL] at hy ⊢; omega⟩
  | x :: y :: r, _ => by
    obtain ⟨h1, h2⟩ := minL_mem (y :: r) (by simp)
    have e : minL (x :: y :: r) = min x (minL (y :: r)) := rfl
    refine ⟨?_, fun z hz => ?_⟩
    · rw [e]
      by_cases hx : minL (y :: r) ≤ x
      · rw [Int.min_eq_right hx]; exact List.mem_cons_of_mem _ h1
      · rw [Int.min_eq_left (by omega)]; exact List.mem_cons_self
    · rw [e]
      rcases List.mem_cons.mp hz with rfl | hz
      · omega
      · have := h2 z hz; omega
theorem cr_maxT (hc : X.calm = true) (hu : X.A.units + 65 < cLine) : CallR X (.builtin "max") (fun vs H Q => ∃ (a : Addr) (ns : List Int), vs = [V.ref a] ∧ SqT X.K H a (ns.map V.int) ∧ ns ≠ [] ∧ Q (.int (maxL ns)) H) := by
  intro pins s σ H vs us Q I r h
  obtain ⟨a, ns, rfl, hs, hne, q⟩ := h
  obtain ⟨its, rv, hl, _⟩ := I.tuple hs
  rw [Vals.ref1 r]
  obtain ⟨n, r, rfl⟩ : ∃ n r, ns = n :: r := by
    cases ns with
    | nil => exact absurd rfl hne
    | cons n r => exact ⟨n, r, rfl⟩
  have al : PySem.W.AlikeAll (PyData.int n :: r.map PyData.int) := by
    refine ⟨fun x hx y hy => ?_, fun x hx => ?_⟩
    · have hx : x ∈ (n :: r).map PyData.int := hx
      have hy : y ∈ (n :: r).map PyData.int := hy
      obtain ⟨i, _, rfl⟩ := List.mem_map.mp hx
      obtain ⟨j, _, rfl⟩ := List.mem_map.mp hy
      rfl
    · have hx : x ∈ (n :: r).map PyData.int := hx
      obtain ⟨i, _, rfl⟩ := List.mem_map.mp hx
      intro e; cases e
  have dp : ∀ l : List Int, PyData.depthAll (l.map PyData.int) = 0 := fun l => by
    induction l with
    | nil => rfl
    | cons x l ih =>
      show max 0 (PyData.depthAll (l.map PyData.int)) = 0
      rw [ih]; rfl
  have dp2 : PyData.depthAll (PyData.int n :: r.map PyData.int) = 0 := dp (n :: r)
  refine PySem.W.max_tuple_data (x := .int n) (xs := r.map .int) (I.ok.hd hc) hl (rv.ints.reads _) al (by rw [dp2]; omega) fun i v h' tk bs hi rd hk => ?_
  rw [PySem.W.maxD_ints] at rd
  have e : r.foldl max n = maxL (n :: r) := by
    have : ∀ (l : List Int) (m : Int), l.foldl max m = maxL (m :: l) := fun l => by
      induction l with
      | nil => intro m; rfl
      | cons x l ih =>
        intro m
        rw [List.foldl_cons, ih]
        show maxL (max m x :: l) = max m (maxL (x :: l))
        cases l with
        | nil => rfl
        | cons y l =>
          show max (max m x) (maxL (y :: l)) = max m (max x (maxL (y :: l)))
          omega
    exact this r n
  rw [e] at rd
  obtain ⟨t, rfl⟩ : ∃ t, v = Value.int (maxL (n :: r)) t := by cases rd; exact ⟨_, rfl⟩
  exact ⟨.int _, H, I.kept hk, ⟨_, rfl⟩, q⟩
theorem cb_maxl (hc : X.calm = true) (hu : X.A.units + 65 < cLine) : CallR X (.builtin "max") (LRC X (biW .maxl)) := by
  intro pins s σ H vs us Q I rs q
  obtain ⟨ρ, h, xs, F, r, ps, kq, w⟩ := q
  match xs, w with
  | [x], w =>
    obtain ⟨v, rfl, p⟩ := reps1 ps
    obtain ⟨a, vs, ys, rfl, sq, ps, ns, e, hn, w⟩ := seqW_some r p w
    obtain rfl := ps.ints e
    rcases sq with sq | sq
    · refine cr_max hc pins s σ H _ us Q I rs ⟨a, ns, rfl, sq, List.length_pos_iff.mpr hn, fun m h1 h2 => ?_⟩
      obtain ⟨g1, g2⟩ := maxL_mem ns hn
      have : m = maxL ns := by have := h2 _ g1; have := g2 _ h1; omega
      subst this
      exact kq.int r w
    · exact cr_maxT hc hu pins s σ H _ us Q I rs ⟨a, ns, rfl, sq, hn, kq.int r w⟩
theorem cr_minT (hc : X.calm = true) (hu : X.A.units + 65 < cLine) : CallR X (.builtin "min") (fun vs H Q => ∃ (a : Addr) (ns : List Int), vs = [V.ref a] ∧ SqT X.K H a (ns.map V.int) ∧ ns ≠ [] ∧ Q (.int (minL ns)) H) := by
  intro pins s σ H vs us Q I r h
  obtain ⟨a, ns, rfl, hs, hne, q⟩ := h
  obtain ⟨its, rv, hl, _⟩ := I.tuple hs
  rw [Vals.ref1 r]
  obtain ⟨n, r, rfl⟩ : ∃ n r, ns = n :: r := by
    cases ns with
    | nil => exact absurd rfl hne
    | cons n r => exact ⟨n, r, rfl⟩
  have al : PySem.W.AlikeAll (PyData.int n :: r.map PyData.int) := by
    refine ⟨fun x hx y hy => ?_, fun x hx => ?_⟩
    · have hx : x ∈ (n :: r).map PyData.int := hx
      have hy : y ∈ (n :: r).map PyData.int := hy
      obtain ⟨i, _, rfl⟩ := List.mem_map.mp hx
      obtain ⟨j, _, rfl⟩ := List.mem_map.mp hy
      rfl
    · have hx : x ∈ (n :: r).map PyData.int := hx
      obtain ⟨i, _, rfl⟩ := List.mem_map.mp hx
      intro e; cases e
  have dp : ∀ l : List Int, PyData.depthAll (l.map PyData.int) = 0 := fun l => by
    induction l with
    | nil => rfl
    | cons x l ih =>
      show max 0 (PyData.depthAll (l.map PyData.int)) = 0
      rw [ih]; rfl
  have dp2 : PyData.depthAll (PyData.int n :: r.map PyData.int) = 0 := dp (n :: r)
  refine PySem.W.min_tuple_data (x := .int n) (xs := r.map .int) (I.ok.hd hc) hl (rv.ints.reads _) al (by rw [dp2]; omega) fun i v h' tk bs hi rd hk => ?_
  rw [PySem.W.minD_ints] at rd
  have e : r.foldl min n = minL (n :: r) := by
    have : ∀ (l : List Int) (m : Int), l.foldl min m = minL (m :: l) := fun l => by
      induction l with
      | nil => intro m; rfl
      | cons x l ih =>
        intro m
        rw [List.foldl_cons, ih]
        show minL (min m x :: l) = min m (minL (x :: l))
        cases l with
        | nil => rfl
        | cons y l =>
          show min (min m x) (minL (y :: l)) = min m (min x (minL (y :: l)))
          omega
    exact this r n
  rw [e] at rd
  obtain ⟨t, rfl⟩ : ∃ t, v = Value.int (minL (n :: r)) t := by cases rd; exact ⟨_, rfl⟩
  exact ⟨.int _, H, I.kept hk, ⟨_, rfl⟩, q⟩
theorem cb_minl (hc : X.calm = true) (hu : X.A.units + 65 < cLine) : CallR X (.builtin "min") (LRC X (biW .minl)) := by
  intro pins s σ H vs us Q I rs q
  obtain ⟨ρ, h, xs, F, r, ps, kq, w⟩ := q
  match xs, w with
  | [x], w =>
    obtain ⟨v, rfl, p⟩ := reps1 ps
    obtain ⟨a, vs, ys, rfl, sq, ps, ns, e, hn, w⟩ := seqW_some r p w
    obtain rfl := ps.ints e
    rcases sq with sq | sq
    · refine cr_min hc pins s σ H _ us Q I rs ⟨a, ns, rfl, sq, List.length_pos_iff.mpr hn, fun m h1 h2 => ?_⟩
      obtain ⟨g1, g2⟩ := minL_mem ns hn
      have : m = minL ns := by have := h2 _ g1; have := g2 _ h1; omega
      subst this
      exact kq.int r w
    · exact cr_minT hc hu pins s σ H _ us Q I rs ⟨a, ns, rfl, sq, hn, kq.int r w⟩
theorem cb_sum (hc : X.calm = true) : CallR X (.builtin "sum") (LRC X (biW .sum)) := callr_imp (cr_sum hc) fun vs H Q q => by
  obtain ⟨ρ, h, xs, F, r, ps, kq, w⟩ := q
  match xs, w with
  | [x], w =>
    obtain ⟨v, rfl, p⟩ := reps1 ps
    obtain ⟨a, vs, ys, rfl, sq, ps, ns, e, w⟩ := listW_some r p w
    obtain rfl := ps.ints e
    exact ⟨a, ns, rfl, sq, kq.int r w⟩
theorem cb_all (hc : X.calm = true) : CallR X (.builtin "all") (LRC X (biW .all)) := callr_imp (cr_all hc) fun vs H Q q => by
  obtain ⟨ρ, h, xs, F, r, ps, kq, w⟩ := q
  match xs, w with
  | [x], w =>
    obtain ⟨v, rfl, p⟩ := reps1 ps
    obtain ⟨a, vs, ys, rfl, sq, ps, ns, e, w⟩ := listW_some r p w
    obtain rfl := ps.bools e
    exact ⟨a, ns, rfl, sq, kq.bl r w⟩
theorem cb_any (hc : X.calm = true) : CallR X (.builtin "any") (LRC X (biW .any)) := callr_imp (cr_any hc) fun vs H Q q => by
  obtain ⟨ρ, h, xs, F, r, ps, kq, w⟩ := q
  match xs, w with
  | [x], w =>
    obtain ⟨v, rfl, p⟩ := reps1 ps
    obtain ⟨a, vs, ys, rfl, sq, ps, ns, e, w⟩ := listW_some r p w
    obtain rfl := ps.bools e
    exact ⟨a, ns, rfl, sq, kq.bl r w⟩
theorem cb_list : CallR X (.type "list") (LRC X (biW .list)) := callr_imp call_list_of fun vs H Q q => by
  obtain ⟨ρ, h, xs, F, r, ps, kq, w⟩ := q
  match xs, w with
  | [x], w =>
    obtain ⟨v, rfl, p⟩ := reps1 ps
    obtain ⟨a, vs, ys, rfl, sq, ps, w⟩ := seqW_some r p w
    exact ⟨a, vs, rfl, sq, fun l hl => kq.newL r ps w hl⟩
theorem callr_or {f : Value} {r r' : List V → Hp → VK → Prop} (h : CallR X f r) (k : CallR X f r') : CallR X f (fun vs H Q => r vs H Q ∨ r' vs H Q) := fun pins s σ H xs us Q I rs q => q.elim (h pins s σ H xs us Q I rs) (k pins s σ H xs us Q I rs)
theorem cb_int : CallR X (.type "int") (LRC X (biW .int)) := callr_imp (callr_or call_int1 call_int_str) fun vs H Q q => by
  obtain ⟨ρ, h, xs, F, r, ps, kq, w⟩ := q
  match xs, w with
  | [.int i], w =>
    obtain ⟨v, rfl, p⟩ := reps1 ps
    obtain rfl := p
    exact .inl (.inl ⟨i, rfl, kq.int r w⟩)
  | [.bl i], w =>
    obtain ⟨v, rfl, p⟩ := reps1 ps
    obtain rfl := p
    exact .inl (.inr ⟨i, rfl, kq.int r w⟩)
  | [.str a], w =>
    obtain ⟨v, rfl, p⟩ := reps1 ps
    obtain rfl := p
    obtain ⟨n, e, l, w⟩ := w
    exact .inr ⟨a, n, rfl, e, l, kq.int r w⟩
/-! ### dict(..) -/
theorem keyAtom_rep {K : PySem.W.Frag} {ρ : List Addr} {H : Hp} {x : PV} {v : V} {k : At} (e : keyAtom x = some k) (p : Rep K ρ H x v) : v = kV k := by
  cases x with
  | int i => simp [keyAtom] at e; subst e; exact p
  | str s => simp [keyAtom] at e; subst e; exact p
  | _ => simp [keyAtom] at e
def pair1 : PV → Option (PV × PV)
  | .tup [k, v] => some (k, v)
  | .itp [k, v] => some (k, v)
  | _ => none
theorem pairsOf_cons {y : PV} {ys : List PV} {ps : List (At × PV)} (e : pairsOf (y :: ys) = some ps) : ∃ k x a pt, pair1 y = some (k, x) ∧ keyAtom k = some a ∧ pairsOf ys = some pt ∧ ps = (a, x) :: pt := by
  unfold pairsOf at e
  split at e
  · rename_i eq; cases eq
  · rename_i k v r eq
    injection eq with e1 e2
    subst e1 e2
    split at e
    · rename_i a pt h1 h2
      cases e
      exact ⟨k, v, a, pt, rfl, h1, h2, rfl⟩
    · cases e
  · rename_i k v r eq
    injection eq with e1 e2
    subst e1 e2
    split at e
    · rename_i a pt h1 h2
      cases e
      exact ⟨k, v, a, pt, rfl, h1, h2, rfl⟩
    · cases e
  · cases e
theorem pair1_rep {K : PySem.W.Frag} {ρ : List Addr} {H : Hp} {y k x : PV} {v : V} (e : pair1 y = some (k, x)) (p : Rep K ρ H y v) : ∃ (a : Addr) (us : List V), v = .ref a ∧ SqT K H a us ∧ Reps K ρ H [k, x] us := by
  unfold pair1 at e
  split at e
  · cases e
    obtain ⟨a, us, ev, t, rr⟩ := p
    exact ⟨a, us, ev, t.sq, rr⟩
  · cases e
    obtain ⟨a, us, ev, t, rr⟩ := p
    exact ⟨a, us, ev, t.sq, rr⟩
  · cases e
theorem pairs_rep {K : PySem.W.Frag} {ρ : List Addr} {H : Hp} : ∀ {ys : List PV} {vs : List V} {ps : List (At × PV)}, pairsOf ys = some ps → Reps K ρ H ys vs →
    ∃ (as : List Addr) (kvs : List (Key × V)), vs = as.map V.ref ∧ Paired (fun p kv => SqT K H p [kV kv.1, kv.2]) as kvs ∧ RepD1 K ρ H (ps.map fun p => (Ky.one p.1, p.2)) kvs := by
  intro ys
  induction ys with
  | nil =>
    intro vs ps e q
    cases q
    simp only [pairsOf, Option.some.injEq] at e
    subst e
    exact ⟨[], [], rfl, .nil, rfl⟩
  | cons y ys ih =>
    intro vs ps e q
    obtain ⟨v, r, ev, p, q⟩ := q
    subst ev
    obtain ⟨k, x, ka, pt, e1, e2, e3, rfl⟩ := pairsOf_cons e
    obtain ⟨a, us, rfl, sq, rr⟩ := pair1_rep e1 p
    obtain ⟨as, kvs, e4, pd, rd⟩ := ih e3 q
    obtain ⟨kv, r1, eu, rk, xv, r2, eu2, rx, en⟩ := rr
    subst eu eu2
    cases en
    obtain rfl := keyAtom_rep e2 rk
    exact ⟨a :: as, (ka, xv) :: kvs, by rw [e4] <;> rfl, .cons sq pd, ⟨ka, xv, kvs, rfl, rfl, rx, rd⟩⟩
theorem d1_merge {X : Cx} {ρ : List Addr} {H : Hp} : ∀ {ps : List (At × PV)} {kvs : List (Key × V)} {acc : List (Ky × PV)} {ws : List (Key × V)}, RepD1 X.K ρ H (ps.map fun p => (Ky.one p.1, p.2)) kvs → RepD1 X.K ρ H acc ws → RepD1 X.K ρ H (dputs acc ps) (mergeK ws kvs) := by
  intro ps
  induction ps with
  | nil => intro kvs acc ws q a; cases q; exact a
  | cons p ps ih =>
    intro kvs acc ws q a
    obtain ⟨k, x⟩ := p
    obtain ⟨j, v, r, e, e2, p, t⟩ := q
    subst e
    cases e2
    exact (ih t (d1_put k p a) : RepD1 X.K ρ H (dputs (dput (.one k) x acc) ps) (mergeK (putK ws k v) r))
theorem pairW_some {h : Hep} {ρ : List Addr} {H : Hp} {x : PV} {v : V} {F : List PV → Prop} (r : HR X.K X.mg ρ h H) (p : Rep X.K ρ H x v) (w : pairW h x F) : ∃ a vs ys, v = .ref a ∧ (SqL X.K H a vs ∨ Zh.Whole X.K H a vs) ∧ Reps X.K ρ H ys vs ∧ F ys := by
  cases x with
  | ref i =>
    obtain ⟨ys, e, w⟩ := getL_some (show getL h i F from w)
    obtain ⟨a, e1, rfl⟩ := p
    obtain ⟨b, vs, e2, k, ps⟩ := r.lst e
    rw [e1] at e2; cases e2
    exact ⟨a, vs, ys, rfl, .inl (SqL.of k), ps, w⟩
  | ils ys =>
    obtain ⟨a, vs, rfl, t, ps⟩ := p
    exact ⟨a, vs, ys, rfl, .inl t.sq, ps, w⟩
  | itp ys =>
    obtain ⟨a, vs, rfl, t, ps⟩ := p
    exact ⟨a, vs, ys, rfl, .inr t, ps, w⟩
  | _ => exact w.elim
theorem cb_dict (hc : X.calm = true) : CallR X (.type "dict") (LRC X (biW .dict)) := callr_imp (Zh.cr_dictP hc) fun vs H Q q => by
  obtain ⟨ρ, h, xs, F, r, ps, kq, w⟩ := q
  match xs, w with
  | [x], w =>
    obtain ⟨v, rfl, p⟩ := reps1 ps
    obtain ⟨a, vs, ys, rfl, sq, qs, pz, ep, w⟩ := pairW_some r p w
    obtain ⟨as, kvs, rfl, pd, rd⟩ := pairs_rep ep qs
    have rm := d1_merge (acc := []) (ws := []) rd rfl
    refine ⟨a, as, kvs, rfl, sq, pd, fun q hq => ?_⟩
    have n0 := (r.tupl hq (.dK (mergeK [] kvs)))
    have n : Nx ρ H (ρ ++ [q]) (upd H q (.dK (mergeK [] kvs))) := ⟨⟨[q], rfl⟩, fun a w e _ => by rw [upd_ne (ne_of_none e hq)]; exact e, fun a e z => by
      rcases List.mem_append.mp e with e | e
      · exact absurd e z
      · rw [List.mem_singleton.mp e]; exact hq⟩
    obtain ⟨r1, n1⟩ := r.alloc hq (u := .dK (mergeK [] kvs)) (o := .dic (dputs [] pz)) (.inl ⟨_, upd_same, RepD1.stay (r.stay n) _ _ rm⟩)
    exact kq (.ref h.length) _ _ _ _ n1 r1 ⟨q, by rw [← r.len]; simp, rfl⟩ w
theorem firsts_eq : @Z.firsts = @Zh.firsts := rfl
theorem keyAtoms_list {K : PySem.W.Frag} {ρ : List Addr} {H : Hp} : ∀ {xs : List PV} {vs : List V} {ks : List At}, keyAtoms xs = some ks → Reps K ρ H xs vs → vs = ks.map kV
  | [], vs, ks, e, p => by cases p; simp [keyAtoms] at e; subst e; rfl
  | x :: xs, vs, ks, e, ⟨v, r, e1, p, ps⟩ => by
    subst e1
    unfold keyAtoms at e
    split at e
    · rename_i k ks' h1 h2
      cases e
      rw [keyAtoms_list h2 ps, keyAtom_rep h1 p]
      rfl
    · cases e

/-! ### sorted, min and max with default= -/
open PySem.W (EachIs) in
theorem each_of {K : PySem.W.Frag} {ρ : List Addr} {H : Hp} : ∀ {ys : List PV} {vs : List V} {ds : List PyData}, Reps K ρ H ys vs → EachIs (fun (p : PV × PyData) (q : V × PyData) => Rep K ρ H p.1 q.1 ∧ p.2 = q.2) (ys.zip ds) (vs.zip ds)
  | [], _, _, q => by cases q; exact .nil
  | y :: ys, _, [], ⟨v, r, e, q, t⟩ => by subst e; exact .nil
  | y :: ys, _, d :: ds, ⟨v, r, e, q, t⟩ => by subst e; exact .cons ⟨q, rfl⟩ (each_of t)
open PySem.W (EachIs) in
theorem of_each {K : PySem.W.Frag} {ρ : List Addr} {H : Hp} : ∀ {ps : List (PV × PyData)} {qs : List (V × PyData)}, EachIs (fun (p : PV × PyData) (q : V × PyData) => Rep K ρ H p.1 q.1 ∧ p.2 = q.2) ps qs → Reps K ρ H (ps.map (·.1)) (qs.map (·.1))
  | _, _, .nil => rfl
  | _, _, .cons r t => ⟨_, _, rfl, r.1, of_each t⟩
theorem each_mem2 {α β : Type} {R : α → β → Prop} : ∀ {as : List α} {bs : List β}, PySem.W.EachIs R as bs → ∀ p ∈ as.zip bs, R p.1 p.2
  | _, _, .nil, p, h => by cases h
  | _, _, .cons r t, p, h => by
    rcases List.mem_cons.mp h with h | h
    · subst h; exact r
    · exact each_mem2 t p h
theorem Reps.sort {K : PySem.W.Frag} {ρ : List Addr} {H : Hp} {ys : List PV} {vs : List V} {ds : List PyData} (q : Reps K ρ H ys vs) : Reps K ρ H (sortZ ys ds) (Zh.sortV (vs.zip ds)) := by
  have e := each_of (ds := ds) q
  refine of_each (PySem.W.sort_each e fun p hp q hq => ?_)
  have h1 := (each_mem2 e p hp).2
  have h2 := (each_mem2 e q hq).2
  show PySem.W.dataLe false (fun p => p.2) p.1 q.1 = PySem.W.dataLe false (fun p => p.2) p.2 q.2
  rw [PySem.W.dataLe_eq, PySem.W.dataLe_eq]
  simp only [h1, h2]
theorem cb_sorted (hu : X.A.units + 65 < cLine) : CallR X (.builtin "sorted") (LRC X (biW .sorted)) := callr_imp (Zh.cr_sortedDA hu) fun vs H Q q => by
  obtain ⟨ρ, h, xs, F, r, ps, kq, w⟩ := q
  match xs, w with
  | [x], w =>
    obtain ⟨v, rfl, p⟩ := reps1 ps
    obtain ⟨a, vs, ys, rfl, sq, ps, ds, e, al, so, w⟩ := seqW_some r p w
    refine ⟨a, vs, ds, rfl, sq, dat_all _ (dat_dp r 59) ys vs ds ps e, al, so, fun d hd => ?_, fun l hl => kq.newL r ps.sort w hl⟩
    have := seq_depth h 59 ys ds e
    have : ∀ (ds : List PyData), d ∈ ds → d.depth ≤ PyData.depthAll ds := fun ds => by
      induction ds with
      | nil => intro h; cases h
      | cons x ds ih =>
        intro h
        show d.depth ≤ max x.depth (PyData.depthAll ds)
        rcases List.mem_cons.mp h with h | h
        · subst h; omega
        · have := ih h; omega
    have := this ds hd
    omega
theorem reps_inv {K : PySem.W.Frag} {ρ : List Addr} {H : Hp} : ∀ {ys : List PV} {vs : List V} {i : Nat} {v : V}, Reps K ρ H ys vs → vs[i]? = some v → ∃ y, ys[i]? = some y ∧ Rep K ρ H y v
  | [], _, i, v, q, e => by cases q; simp at e
  | y :: ys, _, 0, v, ⟨w, r, e, q, t⟩, h => by subst e; simp at h; subst h; exact ⟨y, rfl, q⟩
  | y :: ys, _, i + 1, v, ⟨w, r, e, q, t⟩, h => by
    subst e
    obtain ⟨z, hz, pz⟩ := reps_inv t (show r[i]? = some v by simpa using h)
    exact ⟨z, by simpa using hz, pz⟩
theorem cb_minp (hc : X.calm = true) (hu : X.A.units + 65 < cLine) : CallR X (.builtin "min") (LRC X (biW .minp)) := by
  intro pins s σ H vs us Q I rs q
  obtain ⟨ρ, h, xs, F, r, ps, kq, w⟩ := q
  match xs, w with
  | [x], w =>
    obtain ⟨v, rfl, p⟩ := reps1 ps
    obtain ⟨a, vs, ys, rfl, sq, ps, d, ds, e, al, dp, w⟩ := listW_some r p w
    refine Zh.cr_best0 false hc hu pins s σ H _ us Q I rs ⟨a, vs, d, ds, rfl, sq, dat_all _ (dat_dp r 59) ys vs (d :: ds) ps e, al, dp, fun i v hv hd => ?_⟩
    obtain ⟨y, hy, py⟩ := reps_inv ps hv
    exact kq y h ρ H v Nx.refl r py (w i y hy hd)
theorem d1_keys {K : PySem.W.Frag} {ρ : List Addr} {H : Hp} : ∀ {kvs : List (Ky × PV)} {ws : List (Key × V)} {ks : List Int}, RepD1 K ρ H kvs ws → kvs.map (·.1) = ks.map (fun i => Ky.one (.inl i)) → ws.map (·.1) = ks.map Sum.inl
  | [], _, ks, q, e => by
    cases q
    cases ks with
    | nil => rfl
    | cons _ _ => cases e
  | (k, x) :: r, _, ks, ⟨j, v, r', e1, e2, q, t⟩, e => by
    subst e1
    subst e2
    cases ks with
    | nil => cases e
    | cons i ks =>
      injection e with h1 h2
      injection h1 with h1
      subst h1
      rw [List.map_cons, List.map_cons, d1_keys t h2]
theorem reps_ints0 {K : PySem.W.Frag} (ρ : List Addr) (H : Hp) : ∀ ns : List Int, Reps K ρ H (ns.map PV.int) (ns.map V.int)
  | [] => rfl
  | n :: ns => ⟨.int n, ns.map V.int, rfl, rfl, reps_ints0 ρ H ns⟩
theorem cb_sortedk (hc : X.calm = true) : CallR X (.builtin "sorted") (LRC X (biW .sortedk)) := by
  intro pins s σ H vs us Q I rs q
  obtain ⟨ρ, h, xs, F, r, ps, kq, w⟩ := q
  match xs, w with
  | [x], w =>
    obtain ⟨v, rfl, p⟩ := reps1 ps
    cases x with
    | ref i =>
      have w : getD h i fun kvs => kvs ≠ [] ∧ ∃ ks : List Int, kvs.map (·.1) = ks.map (fun i => Ky.one (.inl i)) ∧ ks.length < 64 ∧ ∀ ms : List Int, ms.Perm ks → ms.Pairwise (· ≤ ·) → F (.ref h.length) (h ++ [.lst (ms.map PV.int)]) := w
      obtain ⟨kvs, e, ne, ks, ek, lk, w⟩ : ∃ kvs, h[i]? = some (.dic kvs) ∧ kvs ≠ [] ∧ ∃ ks : List Int, kvs.map (·.1) = ks.map (fun i => Ky.one (.inl i)) ∧ ks.length < 64 ∧ ∀ ms : List Int, ms.Perm ks → ms.Pairwise (· ≤ ·) → F (.ref h.length) (h ++ [.lst (ms.map PV.int)]) := by
        unfold getD at w
        split at w
        · rename_i kvs e
          exact ⟨kvs, e, w⟩
        · exact w.elim
      obtain ⟨a, e1, rfl⟩ := p
      obtain ⟨b, e2, o⟩ := r.get e
      rw [e1] at e2; cases e2
      rcases o with ⟨ws, ha, d⟩ | ⟨ws, ha, d⟩
      · exact L2.call_sortedDI hc pins s σ H _ us Q I rs ⟨a, ws, ks, rfl, Rd.of ha, d1_keys d ek, lk, fun ys p py pw hp => kq.newL r (reps_ints0 ρ H ys) (w ys py pw) hp⟩
      · exfalso
        cases kvs with
        | nil => exact ne rfl
        | cons q kvs =>
          obtain ⟨k, x⟩ := q
          obtain ⟨j, v, r', _, e2, _⟩ := d
          subst e2
          cases ks with
          | nil => cases ek
          | cons i ks => injection ek with ek; cases ek
    | _ => exact False.elim w
theorem mdf_ints : ∀ ns : List Int, ns ≠ [] → ∀ mx, ∃ y ys, ns.map PyData.int = y :: ys ∧ Zh.best mx y ys = .int (if mx = true then maxL ns else minL ns)
  | n :: r, _, mx => by
    refine ⟨.int n, r.map .int, rfl, ?_⟩
    unfold Zh.best
    have e1 : ∀ (l : List Int) (m : Int), l.foldl max m = maxL (m :: l) := fun l => by
      induction l with
      | nil => intro m; rfl
      | cons x l ih =>
        intro m
        rw [List.foldl_cons, ih]
        show maxL (max m x :: l) = max m (maxL (x :: l))
        cases l with
        | nil => rfl
        | cons y l =>
          show max (max m x) (maxL (y :: l)) = max m (max x (maxL (y :: l)))
          omega
    have e2 : ∀ (l : List Int) (m : Int), l.foldl min m = minL (m :: l) := fun l => by
      induction l with
      | nil => intro m; rfl
      | cons x l ih =>
        intro m
        rw [List.foldl_cons, ih]
        show minL (min m x :: l) = min m (minL (x :: l))
        cases l with
        | nil => rfl
        | cons y l =>
          show min (min m x) (minL (y :: l)) = min m (min x (minL (y :: l)))
          omega
    cases mx
    · rw [if_neg (by decide), if_neg (by decide), PySem.W.minD_ints, e2]
    · rw [if_pos rfl, if_pos rfl, PySem.W.maxD_ints, e1]
theorem alike_ints (ns : List Int) : PySem.W.AlikeAll (ns.map PyData.int) := by
  refine ⟨fun x hx y hy => ?_, fun x hx => ?_⟩
  · obtain ⟨i, _, rfl⟩ := List.mem_map.mp hx
    obtain ⟨j, _, rfl⟩ := List.mem_map.mp hy
    rfl
  · obtain ⟨i, _, rfl⟩ := List.mem_map.mp hx
    intro e; cases e
theorem depth_ints : ∀ l : List Int, PyData.depthAll (l.map PyData.int) = 0
  | [] => rfl
  | x :: l => by
    show max 0 (PyData.depthAll (l.map PyData.int)) = 0
    rw [depth_ints l]; rfl
theorem dp_ints {K : PySem.W.Frag} {H : Hp} : ∀ ns : List Int, DpAll K H (ns.map V.int) (ns.map PyData.int)
  | [] => .nil
  | n :: r => .cons (.int n) (dp_ints r)
theorem boot_mm (mx : Bool) : bootBuiltins (Str.ofString (Zh.mmName mx)) = some (.builtin (Zh.mmName mx)) := by cases mx <;> decide +kernel
theorem ze_mdf {Γ : List Spec} {x : Ex} {p p2 kp : Pos} {j : Nat} {mx : Bool} (hc : X.calm = true) (hu : X.A.units + 65 < cLine) (hg : Gl X (Str.ofString (Zh.mmName mx))) (hm : X.mg (Str.ofString (Zh.mmName mx)) = none) (ha : PE X a (LE X W (wE Γ x))) (hs : ∀ r, starEach (a :: r) X.env = (false, eval a X.env) :: starEach r X.env) :
    PE X (.Call (.Name (Str.ofString (Zh.mmName mx)) p) [a] [⟨some "default", .Constant .none j p2, kp⟩] pos) (LE X W (wE Γ (.mdf mx x))) := by
  refine pe_imp (pe_callBK (ks := [Str.ofString "default"]) (Zh.cr_best mx hc hu) hg hm (boot_mm mx) (pa_cons ha pa_nil (hs [])) (pk_cons pe_non pk_nil) (by cases mx <;> decide) (by cases mx <;> decide) (by rw [hs]; rfl) (by rw [hs]; rfl)) fun σ H Q ⟨ρ, σz, h, F, E, s, kq, kx, w⟩ => ?_
  unfold wE at w
  refine ⟨ρ, σz, h, _, E, s, fun y h1 ρ1 H1 v n1 r1 p1 w1 => ?_, kx, w⟩
  obtain ⟨a, vs, ys, rfl, sq, ps, ns, e, w1⟩ := listW_some r1 p1 (show listW h1 y _ from w1)
  obtain rfl := ps.ints e
  refine ⟨a, ns.map V.int, ns.map .int, .non, rfl, rfl, sq, dp_ints ns, alike_ints ns, by rw [depth_ints]; omega, fun e0 => ?_, fun y ys i v e0 hv hd => ?_⟩
  · have : ns = [] := List.map_eq_nil_iff.mp e0
    rw [if_pos this] at w1
    exact (kq.nx n1).non r1 w1
  · have hn : ns ≠ [] := by intro z; subst z; cases e0
    rw [if_neg hn] at w1
    obtain ⟨y', ys', e1, e2⟩ := mdf_ints ns hn mx
    rw [e0] at e1
    cases e1
    rw [e2] at hd
    have hv' : v = .int (if mx = true then maxL ns else minL ns) := by
      rw [List.getElem?_map] at hd
      rw [List.getElem?_map] at hv
      cases hg : ns[i]? with
      | none => rw [hg] at hv; cases hv
      | some n =>
        rw [hg] at hv hd
        cases hv
        have hd : some (PyData.int n) = some (PyData.int (if mx = true then maxL ns else minL ns)) := hd
        injection hd with hd
        injection hd with hd
        rw [hd]
    rw [hv']
    exact (kq.nx n1).int r1 w1
end
end Z

/-! ZsG: calls: built-ins by name, methods, isinstance, defs. -/
namespace Z
open PySem PyProof.Rows L2

section
variable {X : Cx} {W : WX} {e a b c : Expr} {es : List Expr} {pos p : Pos} {Γ : List Spec} {x y : Ex} {xs : List Ex}

theorem le_bi {op : List PV → Hep → KQ → Prop} (σ : L2.St) (H : Hp) (Q : VK) (q : LE X W (fun σz h F E => wEs Γ xs σz h (fun ys h1 => op ys h1 F) E) σ H Q) : tCB (LRC X op) (LA X W (wEs Γ xs)) σ H Q := by
  obtain ⟨ρ, σz, h, F, E, s, kq, kx, w⟩ := q
  refine ⟨ρ, σz, h, _, E, s, fun ys h1 ρ1 H1 vs n1 r1 ps w1 => ?_, kx, w⟩
  exact ⟨ρ1, h1, ys, F, r1, ps, kq.nx n1, w1⟩
theorem le_bi' {bi : BI} (σ : L2.St) (H : Hp) (Q : VK) (q : LE X W (wE Γ (.bi bi xs)) σ H Q) : LE X W (fun σz h F E => wEs Γ xs σz h (fun ys h1 => biW bi ys h1 F) E) σ H Q := by
  obtain ⟨ρ, σz, h, F, E, s, kq, kx, w⟩ := q
  unfold wE at w
  exact ⟨ρ, σz, h, F, E, s, kq, kx, w⟩

/-- the names of the built-ins, and whether they are classes -/
def biName : BI → Option (String × Bool)
  | .len => some ("len", false) | .max2 => some ("max", false) | .min2 => some ("min", false) | .max3 => some ("max", false) | .min3 => some ("min", false) | .sum => some ("sum", false) | .all => some ("all", false) | .any => some ("any", false)
  | .sorted => some ("sorted", false)
  | .dict => some ("dict", true)
  | .list => some ("list", true) | .int => some ("int", true) | .maxl => some ("max", false) | .minl => some ("min", false)
  | .minp => some ("min", false) | .sortedk => some ("sorted", false)
  | _ => none
theorem star_plain {es : List Expr} {env : PySem.Env} (h : ∀ a ∈ es, ∀ r, starEach (a :: r) env = (false, eval a env) :: starEach r env) : (backTo pos (starEach es env)).any (·.1) = false := by
  induction es with
  | nil => rfl
  | cons a r ih =>
    rw [h a List.mem_cons_self r]
    show ((false, _) :: backTo pos (starEach r env)).any (·.1) = false
    rw [List.any_cons, ih fun b hb => h b (List.mem_cons_of_mem _ hb)]
    rfl
/-- a built-in called by its name -/
theorem ze_bi {bi : BI} {nm : String} {ty : Bool} (hn : biName bi = some (nm, ty)) (hc : X.calm = true) (hu : X.A.units + 65 < cLine) (hg : Gl X nm) (hm : X.mg nm = none) (ha : PA X (e :: es) (LA X W (wEs Γ xs)))
    (hs : ∀ a ∈ e :: es, ∀ r, starEach (a :: r) X.env = (false, eval a X.env) :: starEach r X.env) : PE X (.Call (.Name nm p) (e :: es) [] pos) (LE X W (wE Γ (.bi bi xs))) := by
  have h1 := hs e List.mem_cons_self es
  have h2 : (backTo pos (starEach es X.env)).any (·.1) = false := star_plain fun b hb => hs b (List.mem_cons_of_mem _ hb)
  cases bi with
  | len => cases hn; exact pe_imp (pe_callB cb_len hg hm PySem.boot_len ha (by decide) (by decide) h1 h2) fun σ H Q q => le_bi σ H Q (le_bi' σ H Q q)
  | max2 => cases hn; exact pe_imp (pe_callB (cb_max2 hc) hg hm (by decide +kernel) ha (by decide) (by decide) h1 h2) fun σ H Q q => le_bi σ H Q (le_bi' σ H Q q)
  | min2 => cases hn; exact pe_imp (pe_callB (cb_min2 hc) hg hm (by decide +kernel) ha (by decide) (by decide) h1 h2) fun σ H Q q => le_bi σ H Q (le_bi' σ H Q q)
  | max3 => cases hn; exact pe_imp (pe_callB (cb_max3 hc) hg hm (by decide +kernel) ha (by decide) (by decide) h1 h2) fun σ H Q q => le_bi σ H Q (le_bi' σ H Q q)
  | min3 => cases hn; exact pe_imp (pe_callB (cb_min3 hc) hg hm (by decide +kernel) ha (by decide) (by decide) h1 h2) fun σ H Q q => le_bi σ H Q (le_bi' σ H Q q)
  | maxl => cases hn; exact pe_imp (pe_callB (cb_maxl hc hu) hg hm (by decide +kernel) ha (by decide) (by decide) h1 h2) fun σ H Q q => le_bi σ H Q (le_bi' σ H Q q)
  | minl => cases hn; exact pe_imp (pe_callB (cb_minl hc hu) hg hm (by decide +kernel) ha (by decide) (by decide) h1 h2) fun σ H Q q => le_bi σ H Q (le_bi' σ H Q q)
  | minp => cases hn; exact pe_imp (pe_callB (cb_minp hc hu) hg hm (by decide +kernel) ha (by decide) (by decide) h1 h2) fun σ H Q q => le_bi σ H Q (le_bi' σ H Q q)
  | sortedk => cases hn; exact pe_imp (pe_callB (cb_sortedk hc) hg hm (by decide +kernel) ha (by decide) (by decide) h1 h2) fun σ H Q q => le_bi σ H Q (le_bi' σ H Q q)
  | sum => cases hn; exact pe_imp (pe_callB (cb_sum hc) hg hm (by decide +kernel) ha (by decide) (by decide) h1 h2) fun σ H Q q => le_bi σ H Q (le_bi' σ H Q q)
  | all => cases hn; exact pe_imp (pe_callB (cb_all hc) hg hm (by decide +kernel) ha (by decide) (by decide) h1 h2) fun σ H Q q => le_bi σ H Q (le_bi' σ H Q q)
  | any => cases hn; exact pe_imp (pe_callB (cb_any hc) hg hm (by decide +kernel) ha (by decide) (by decide) h1 h2) fun σ H Q q => le_bi σ H Q (le_bi' σ H Q q)
  | sorted => cases hn; exact pe_imp (pe_callB (cb_sorted hu) hg hm (by decide +kernel) ha (by decide) (by decide) h1 h2) fun σ H Q q => le_bi σ H Q (le_bi' σ H Q q)
  | list => cases hn; exact pe_imp (pe_callTy cb_list hg hm (by decide +kernel) ha (by decide) (by decide) h1 h2) fun σ H Q q => le_bi σ H Q (le_bi' σ H Q q)
  | dict => cases hn; exact pe_imp (pe_callTy (cb_dict hc) hg hm (by decide +kernel) ha (by decide) (by decide) h1 h2) fun σ H Q q => le_bi σ H Q (le_bi' σ H Q q)
  | int => cases hn; exact pe_imp (pe_callTy cb_int hg hm (by decide +kernel) ha (by decide) (by decide) h1 h2) fun σ H Q q => le_bi σ H Q (le_bi' σ H Q q)
  | _ => cases hn
/-- tuple(x) -/
theorem ze_tuple (hg : Gl X "tuple") (hm : X.mg "tuple" = none) (ha : PE X a (LE X W (wE Γ x))) (hs : starEach [a] X.env = (false, eval a X.env) :: starEach [] X.env) : PE X (.Call (.Name "tuple" p) [a] [] pos) (LE X W (wE Γ (.bi .tuple [x]))) := by
  refine pe_imp (pe_tupleOf hg hm ha hs) fun σ H Q ⟨ρ, σz, h, F, E, s, kq, kx, w⟩ => ?_
  unfold wE wEs at w
  refine ⟨ρ, σz, h, _, E, s, fun y h1 ρ1 H1 v n1 r1 p1 w1 => ?_, kx, w⟩
  unfold wEs at w1
  cases y with
  | ref i =>
    obtain ⟨ys, e, w1⟩ := getL_some (show getL h1 i fun ys => F (.tup ys) h1 from w1)
    obtain ⟨a, e1, rfl⟩ := p1
    obtain ⟨b, vs, e2, k, ps⟩ := r1.lst e
    rw [e1] at e2; cases e2
    exact .inl ⟨a, vs, rfl, SqL.of k, fun q hq => (kq.nx n1).newT r1 ps w1 hq⟩
  | ils ys =>
    obtain ⟨a, vs, rfl, t, ps⟩ := p1
    exact .inl ⟨a, vs, rfl, t.sq, fun q hq => (kq.nx n1).newT r1 ps w1 hq⟩
  | tup ys =>
    obtain ⟨a, vs, rfl, t, ps⟩ := p1
    exact .inr ⟨a, vs, rfl, t.sq, (kq.nx n1).here r1 (x := .tup ys) ⟨a, vs, rfl, t, ps⟩ w1⟩
  | itp ys =>
    obtain ⟨a, vs, rfl, t, ps⟩ := p1
    exact .inr ⟨a, vs, rfl, t.sq, (kq.nx n1).here r1 (x := .itp ys) ⟨a, vs, rfl, t, ps⟩ w1⟩
  | _ => exact False.elim w1
theorem signs_reps {K : PySem.W.Frag} {ρ : List Addr} {H : Hp} : ∀ l : List Nat, Reps K ρ H (l.map fun c => PV.str ⟨#[c]⟩) (l.map fun c => V.str ⟨#[c]⟩)
  | [] => rfl
  | c :: l => ⟨.str ⟨#[c]⟩, l.map fun c => V.str ⟨#[c]⟩, rfl, rfl, signs_reps l⟩
/-- tuple(x) of a list or of a text, known whole -/
theorem ze_xtuple (hc : X.calm = true) (hg : Gl X "tuple") (hm : X.mg "tuple" = none) (ha : PE X a (LE X W (wE Γ x))) (hs : starEach [a] X.env = (false, eval a X.env) :: starEach [] X.env) : PE X (.Call (.Name "tuple" p) [a] [] pos) (LE X W (wE Γ (.bi .xtuple [x]))) := by
  refine pe_imp (Zh.pe_tupleWS hc hg hm ha hs) fun σ H Q ⟨ρ, σz, h, F, E, s, kq, kx, w⟩ => ?_
  unfold wE wEs at w
  refine ⟨ρ, σz, h, _, E, s, fun y h1 ρ1 H1 v n1 r1 p1 w1 => ?_, kx, w⟩
  unfold wEs at w1
  have w1 : xtW y h1 F := w1
  cases y with
  | str z =>
    obtain ⟨hz, w1⟩ := w1
    obtain rfl := p1
    exact .inr ⟨z, rfl, by rw [← big_eq]; exact hz, fun q o d hq => (kq.nx n1).newW r1 (signs_reps z.cps.toList) d w1 hq⟩
  | ref i =>
    obtain ⟨a, vs, ys, rfl, sq, ps, w1⟩ := listW_some r1 p1 (show listW h1 (.ref i) fun ys => F (.itp ys) h1 from w1)
    exact .inl ⟨a, vs, rfl, sq, fun q o d hq => (kq.nx n1).newW r1 ps d w1 hq⟩
  | ils ys =>
    obtain ⟨a, vs, ys', rfl, sq, ps, w1⟩ := listW_some r1 p1 (show listW h1 (.ils ys) fun ys => F (.itp ys) h1 from w1)
    exact .inl ⟨a, vs, rfl, sq, fun q o d hq => (kq.nx n1).newW r1 ps d w1 hq⟩
  | _ => exact False.elim w1
theorem enum_d1 {K : PySem.W.Frag} {ρ : List Addr} {H : Hp} : ∀ {ys : List PV} {vs : List V} (k : Nat), Reps K ρ H ys vs → RepD1 K ρ H ((enumA k ys).map fun p => (Ky.one p.1, p.2)) (Zh.enumK k vs)
  | [], _, _, q => by cases q; rfl
  | y :: ys, _, k, ⟨v, r, e, p, t⟩ => by
    subst e
    exact ⟨.inl (k : Int), v, Zh.enumK (k + 1) r, rfl, rfl, p, enum_d1 (k + 1) t⟩
/-- dict(enumerate(x)) -/
theorem ze_dictenum {p2 q : Pos} (hc : X.calm = true) (hg : Gl X "dict") (hm : X.mg "dict" = none) (hg2 : Gl X "enumerate") (hm2 : X.mg "enumerate" = none) (ha : PE X a (LE X W (wE Γ x))) (hs : starEach [a] X.env = (false, eval a X.env) :: starEach [] X.env) :
    PE X (.Call (.Name "dict" p) [.Call (.Name "enumerate" p2) [a] [] q] [] pos) (LE X W (wE Γ (.bi .dictenum [x]))) := by
  refine pe_imp (Zh.pe_dictEnum hc hg hm hg2 hm2 ha hs) fun σ H Q ⟨ρ, σz, h, F, E, s, kq, kx, w⟩ => ?_
  unfold wE wEs at w
  refine ⟨ρ, σz, h, _, E, s, fun y h1 ρ1 H1 v n1 r1 p1 w1 => ?_, kx, w⟩
  unfold wEs at w1
  obtain ⟨b, vs, ys, rfl, sq, ps, w1⟩ := seqW_some r1 p1 (show seqW h1 y _ from w1)
  have fin : ∀ d, H1 d = none → Q (.ref d) (upd H1 d (.dK (mergeK [] (Zh.enumK 0 vs)))) := fun d hd => by
    have rm := d1_merge (X := X) (acc := []) (ws := []) (enum_d1 0 ps) rfl
    have n : Nx ρ1 H1 (ρ1 ++ [d]) (upd H1 d (.dK (mergeK [] (Zh.enumK 0 vs)))) := ⟨⟨[d], rfl⟩, fun a w e _ => by rw [upd_ne (ne_of_none e hd)]; exact e, fun a e z => by
      rcases List.mem_append.mp e with e | e
      · exact absurd e z
      · rw [List.mem_singleton.mp e]; exact hd⟩
    obtain ⟨r2, n2⟩ := r1.alloc hd (u := .dK (mergeK [] (Zh.enumK 0 vs))) (o := .dic (dputs [] (enumA 0 ys))) (.inl ⟨_, upd_same, RepD1.stay (r1.stay n) _ _ rm⟩)
    exact kq (.ref h1.length) _ _ _ _ (n1.trans n2) r2 ⟨d, by rw [← r1.len]; simp, rfl⟩ w1
  rcases sq with sq | sq
  · exact ⟨false, b, vs, rfl, sq, fin⟩
  · exact ⟨true, b, vs, rfl, sq, fin⟩
/-- len(set(x)) of a list of keys -/
theorem ze_lenkeys {p2 q : Pos} (hc : X.calm = true) (hg : Gl X "len") (hm : X.mg "len" = none) (hg2 : Gl X "set") (hm2 : X.mg "set" = none) (ha : PE X a (LE X W (wE Γ x))) (hs : starEach [a] X.env = (false, eval a X.env) :: starEach [] X.env) :
    PE X (.Call (.Name "len" p) [.Call (.Name "set" p2) [a] [] q] [] pos) (LE X W (wE Γ (.bi .lenkeys [x]))) := by
  have h1 := pe_callTy (p := p2) (pos := q) (Zh.cr_setKeys hc) hg2 hm2 boot_set (pa_cons ha pa_nil hs) (by decide) (by decide) hs (by rfl)
  refine pe_imp (pe_callB Zh.cr_lenSetK hg hm PySem.boot_len (pa_cons h1 pa_nil rfl) (by decide) (by decide) rfl rfl) fun σ H Q ⟨ρ, σz, h, F, E, s, kq, kx, w⟩ => ?_
  unfold wE wEs at w
  refine ⟨ρ, σz, h, _, E, s, fun y h1 ρ1 H1 v n1 r1 p1 w1 => ?_, kx, w⟩
  unfold wEs at w1
  obtain ⟨a, vs, ys, rfl, sq, ps, ks, e, l, w1⟩ := listW_some r1 p1 (show listW h1 y _ from w1)
  obtain rfl := keyAtoms_list e ps
  have lf := Zh.firsts_le ks
  refine ⟨a, ks, rfl, sq, by unfold scanBound; omega, fun p hp => ?_⟩
  obtain ⟨r2, n2⟩ := r1.tupl hp (SetK X.prog X.w p (Zh.inFirst ks) (Zh.firsts ks).length)
  exact ⟨p, _, _, rfl, upd_same, by omega, ((kq.nx n1).nx n2).int r2 w1⟩
/-- len(set(x)) of unlike whole numbers -/
theorem ze_lenset {p2 q : Pos} (hc : X.calm = true) (hg : Gl X "len") (hm : X.mg "len" = none) (hg2 : Gl X "set") (hm2 : X.mg "set" = none) (ha : PE X a (LE X W (wE Γ x))) (hs : starEach [a] X.env = (false, eval a X.env) :: starEach [] X.env) :
    PE X (.Call (.Name "len" p) [.Call (.Name "set" p2) [a] [] q] [] pos) (LE X W (wE Γ (.bi .lenset [x]))) := by
  refine pe_imp (RZ.pe_lenSetI hg hm hg2 hm2 ha hc hs) fun σ H Q ⟨ρ, σz, h, F, E, s, kq, kx, w⟩ => ?_
  unfold wE wEs at w
  refine ⟨ρ, σz, h, _, E, s, fun y h1 ρ1 H1 v n1 r1 p1 w1 => ?_, kx, w⟩
  unfold wEs at w1
  obtain ⟨a, vs, ys, rfl, sq, ps, ns, e, l, nd, w1⟩ := listW_some r1 p1 (show listW h1 y _ from w1)
  obtain rfl := ps.ints e
  exact ⟨a, ns, rfl, sq, nd, l, (kq.nx n1).int r1 w1⟩
theorem cr_setT (hc : X.calm = true) : CallR X (.type "set") (fun vs H Q => ∃ (l : Addr) (ns : List Int), vs = [V.ref l] ∧ SqT X.K H l (ns.map V.int) ∧ ns.length ≤ 4000 ∧
    ∀ p S n, H p = none → (∀ k, S k = true ↔ k ∈ ns) → n ≤ ns.length → Q (.ref p) (upd H p (SetO X.w p S n))) := by
  intro pins s σ H xs us Q I r h
  obtain ⟨l, ns, rfl, hl, hk, q⟩ := h
  rw [Vals.ref1 r]
  obtain ⟨its, rv, pl, hz⟩ := I.tuple hl
  have hn : H s.heap.objs.size = none := I.hok.fresh (Nat.le_refl _)
  refine call_set_tupI ns (I.ok.hd hc) (show s.heap.IsTuple l its.toArray from pl) (by simpa using rv.ints) (by unfold scanBound; omega) fun h' tk c R hcn k => ?_
  exact ⟨.ref s.heap.objs.size, upd H s.heap.objs.size (SetO X.w s.heap.objs.size (fun j => decide (j ∈ ns)) c), I.laid (t' := tk) k (Nat.le_refl _) (setO_new R), rfl, q _ _ _ hn (fun k => by simp) hcn⟩
/-- sorted(set(x)) of whole numbers -/
theorem ze_sortedset {p2 q : Pos} (hc : X.calm = true) (hg : Gl X "sorted") (hm : X.mg "sorted" = none) (hg2 : Gl X "set") (hm2 : X.mg "set" = none) (ha : PE X a (LE X W (wE Γ x))) (hs : starEach [a] X.env = (false, eval a X.env) :: starEach [] X.env) :
    PE X (.Call (.Name "sorted" p) [.Call (.Name "set" p2) [a] [] q] [] pos) (LE X W (wE Γ (.bi .sortedset [x]))) := by
  have h1 := pe_callTy (p := p2) (pos := q) (CallR.or (Zh.cr_setI hc) (cr_setT hc)) hg2 hm2 boot_set (pa_cons ha pa_nil hs) (by decide) (by decide) hs (by rfl)
  refine pe_imp (pe_callB (cr_sortedSet hc) hg hm (by decide +kernel) (pa_cons h1 pa_nil rfl) (by decide) (by decide) rfl rfl) fun σ H Q ⟨ρ, σz, h, F, E, s, kq, kx, w⟩ => ?_
  unfold wE wEs at w
  refine ⟨ρ, σz, h, _, E, s, fun y h1 ρ1 H1 v n1 r1 p1 w1 => ?_, kx, w⟩
  unfold wEs at w1
  obtain ⟨a, vs, ys, rfl, sq, ps, ns, e, l, w1⟩ := seqW_some r1 p1 (show seqW h1 y _ from w1)
  obtain rfl := ps.ints e
  have last : ∀ (p : Addr) (S : Int → Bool) (n : Nat), H1 p = none → (∀ k, S k = true ↔ k ∈ ns) → n ≤ ns.length → rSortedSet X.w [.ref p] (upd H1 p (SetO X.w p S n)) Q := fun p S n hp hS hn => by
    refine ⟨p, S, n, rfl, upd_same, by omega, fun ms q m1 m2 m3 hq => ?_⟩
    obtain ⟨r2, n2⟩ := r1.tupl hp (SetO X.w p S n)
    refine KQok.newL ((kq.nx n1).nx n2) r2 (xs := ms.map PV.int) (reps_map (f := fun k => PV.int k) (g := fun k => V.int k) (fun k => rfl) ms) (w1 ms m1 fun k => (m2 k).trans (hS k)) hq
  rcases sq with sq | sq
  · exact .inl ⟨a, ns, rfl, sq, by omega, fun p S n hp hS _ hn => last p S n hp hS hn⟩
  · exact .inr ⟨a, ns, rfl, sq, by omega, fun p S n hp hS hn => last p S n hp hS hn⟩
/-- x[::-1] -/
theorem ze_rev {k : Nat} {p1 p2 p3 : Pos} (ha : PE X a (LE X W (wE Γ x))) : PE X (.Subscript a (.Slice none none (some (.UnaryOp .USub (.Constant (.int 1) k p1) p2)) p3) pos) (LE X W (wE Γ (.rev x))) := by
  refine pe_imp (Zh.pe_revA ha) fun σ H Q ⟨ρ, σz, h, F, E, s, kq, kx, w⟩ => ?_
  unfold wE at w
  refine ⟨ρ, σz, h, _, E, s, fun y h1 ρ1 H1 v n1 r1 p1 w1 => ?_, kx, w⟩
  have lst : ∀ G : List PV → Prop, listW h1 y G → (∀ ys, G ys → F (.ref h1.length) (h1 ++ [.lst ys.reverse])) → ∃ a xs, v = .ref a ∧ ((SqL X.K H1 a xs ∧ ∀ p, H1 p = none → Q (.ref p) (upd H1 p (.lst xs.reverse))) ∨ (SqT X.K H1 a xs ∧ ∀ p o, o.dict = none → H1 p = none → Q (.ref p) (upd H1 p (.frz o (.tup xs.reverse))))) := fun G w hG => by
    obtain ⟨a, vs, ys, rfl, sq, ps, w1⟩ := listW_some r1 p1 w
    exact ⟨a, vs, rfl, .inl ⟨sq, fun q hq => (kq.nx n1).newL r1 ps.rev (hG _ w1) hq⟩⟩
  unfold revW at w1
  split at w1
  · obtain ⟨a, vs, rfl, t, ps⟩ := p1
    exact ⟨a, vs, rfl, .inr ⟨t.sq, fun p o d hp => (kq.nx n1).newW r1 ps.rev d w1 hp⟩⟩
  · exact lst (fun ys => F (.ref h1.length) (h1 ++ [Ob.lst ys.reverse])) (by unfold listW; exact w1) fun _ k => k
  · exact lst (fun ys => F (.ref h1.length) (h1 ++ [Ob.lst ys.reverse])) (by unfold listW; exact w1) fun _ k => k
  · exact w1.elim
/-- x[::s] -/
theorem ze_stp {p3 : Pos} (ha : PE X a (LE X W (wE Γ x))) (hb : PE X b (LE X W (wE Γ y))) : PE X (.Subscript a (.Slice none none (some b) p3) pos) (LE X W (wE Γ (.stp x y))) := by
  refine pe_imp (Zh.pe_stp ha hb) fun σ H Q ⟨ρ, σz, h, F, E, s, kq, kx, w⟩ => ?_
  unfold wE at w
  refine ⟨ρ, σz, h, _, E, s, fun z h1 ρ1 H1 v n1 r1 p1 w1 => ?_, kx, w⟩
  refine ⟨ρ1, σz, h1, _, E, s.nx n1 r1, fun q h2 ρ2 H2 v2 n2 r2 p2 w2 => ?_, kx.nx n1, w1⟩
  cases q with
  | int i =>
    obtain rfl : v2 = .int i := p2
    rcases (show (i = 1 ∧ listW h2 z fun ys => F (.ref h2.length) (h2 ++ [.lst ys])) ∨ (i = -1 ∧ listW h2 z fun ys => F (.ref h2.length) (h2 ++ [.lst ys.reverse])) from w2) with ⟨e, w3⟩ | ⟨e, w3⟩
    · obtain ⟨a, vs, ys, rfl, sq, ps, w4⟩ := listW_some r2 (p1.nx r1 n2) w3
      exact ⟨a, vs, i, rfl, rfl, sq, .inl ⟨e, fun q hq => ((kq.nx n1).nx n2).newL r2 ps w4 hq⟩⟩
    · obtain ⟨a, vs, ys, rfl, sq, ps, w4⟩ := listW_some r2 (p1.nx r1 n2) w3
      exact ⟨a, vs, i, rfl, rfl, sq, .inr ⟨e, fun q hq => ((kq.nx n1).nx n2).newL r2 ps.rev w4 hq⟩⟩
  | _ => exact w2.elim
/-- list(range(n)) -/
theorem ze_listrange {p2 q : Pos} (hc : X.calm = true) (hg : Gl X "list") (hm : X.mg "list" = none) (hg2 : Gl X "range") (hm2 : X.mg "range" = none) (ha : PE X a (LE X W (wE Γ x))) (hs : starEach [a] X.env = (false, eval a X.env) :: starEach [] X.env) :
    PE X (.Call (.Name "list" p) [.Call (.Name "range" p2) [a] [] q] [] pos) (LE X W (wE Γ (.bi .listrange [x]))) := by
  refine pe_imp (pe_listRg hc hg hm (prg_1 hg2 hm2 ha hs)) fun σ H Q ⟨ρ, σz, h, F, E, s, kq, kx, w⟩ => ?_
  unfold wE wEs at w
  refine ⟨ρ, σz, h, _, E, s, fun y h1 ρ1 H1 v n1 r1 p1 w1 => ?_, kx, w⟩
  unfold wEs at w1
  cases y with
  | int n =>
    obtain rfl := p1
    obtain ⟨z1, z2, w1⟩ : -(2 ^ 62) ≤ n ∧ n ≤ big ∧ F (.ref h1.length) (h1 ++ [Ob.lst ((List.range n.toNat).map fun (i : Nat) => PV.int i)]) := w1
    have hb : (big : Int) = 16777216 := rfl
    refine ⟨n, rfl, ⟨by omega, by omega, by omega, by omega, by omega⟩, fun q hq => ?_⟩
    have ps : Reps X.K ρ1 H1 ((List.range n.toNat).map fun (i : Nat) => PV.int i) (rgV 0 n) := by
      unfold rgV
      rw [show (n - 0).toNat = n.toNat by rw [Int.sub_zero]]
      refine reps_map (f := fun (i : Nat) => PV.int i) (g := fun (i : Nat) => V.int (0 + (i : Int))) (fun i => ?_) _
      show V.int (0 + (i : Int)) = V.int (i : Int)
      rw [Int.zero_add]
    exact (kq.nx n1).newL r1 ps w1 hq
  | _ => exact False.elim w1
/-- list(range(a, b)) -/
theorem ze_listrange2 {b : Expr} {y : Ex} {p2 q : Pos} (hc : X.calm = true) (hg : Gl X "list") (hm : X.mg "list" = none) (hg2 : Gl X "range") (hm2 : X.mg "range" = none) (ha : PE X a (LE X W (wE Γ x))) (hb : PE X b (LE X W (wE Γ y)))
    (hs : starEach [a, b] X.env = (false, eval a X.env) :: starEach [b] X.env) (hs2 : starEach [b] X.env = (false, eval b X.env) :: starEach [] X.env) (hp : (backTo q (starEach [b] X.env)).any (·.1) = false) :
    PE X (.Call (.Name "list" p) [.Call (.Name "range" p2) [a, b] [] q] [] pos) (LE X W (wE Γ (.bi .listrange [x, y]))) := by
  refine pe_imp (pe_listRg hc hg hm (prg_2 hg2 hm2 ha hb hs hs2 hp)) fun σ H Q ⟨ρ, σz, h, F, E, s, kq, kx, w⟩ => ?_
  unfold wE wEs at w
  refine ⟨ρ, σz, h, _, E, s, fun y h1 ρ1 H1 v n1 r1 p1 w1 => ?_, kx, w⟩
  unfold wEs at w1
  refine ⟨ρ1, σz, h1, _, E, s.nx n1 r1, fun z h2 ρ2 H2 v2 n2 r2 p2 w2 => ?_, kx.nx n1, w1⟩
  unfold wEs at w2
  cases y with
  | int i =>
    cases z with
    | int j =>
      obtain rfl : v = .int i := p1
      obtain rfl : v2 = .int j := p2
      obtain ⟨z1, z2, z3, z4, z5, w2⟩ : -(2 ^ 62) ≤ i ∧ i < 2 ^ 62 ∧ -(2 ^ 62) ≤ j ∧ j < 2 ^ 62 ∧ j - i ≤ big ∧ F (.ref h2.length) (h2 ++ [Ob.lst ((List.range (j - i).toNat).map fun (k : Nat) => PV.int (i + k))]) := w2
      have hb : (big : Int) = 16777216 := rfl
      refine ⟨i, j, rfl, rfl, ⟨by omega, by omega, by omega, by omega, by omega⟩, fun q hq => ?_⟩
      have ps : Reps X.K ρ2 H2 ((List.range (j - i).toNat).map fun (k : Nat) => PV.int (i + k)) (rgV i j) := by
        unfold rgV
        exact reps_map (f := fun (k : Nat) => PV.int (i + k)) (g := fun (k : Nat) => V.int (i + (k : Int))) (fun k => rfl) _
      exact ((kq.nx n1).nx n2).newL r2 ps w2 hq
    | _ => exact False.elim w2
  | _ => exact False.elim w2

/-! ### isinstance -/
def itName : IT → String
  | .int => "int" | .bool => "bool" | .str => "str" | .list => "list" | .tuple => "tuple" | .dict => "dict"
theorem isT_rule {ρ : List Addr} {h : Hep} {H : Hp} {y : PV} {v : V} {t : IT} {K : Bool → Prop} (r : HR X.K X.mg ρ h H) (p : Rep X.K ρ H y v) (w : isT t h y K) : ∃ (ty : Value) (b : Bool), TyX X.K H v ty ∧ PySem.W.kitOne X.K ty (.type (itName t)) = some b ∧ K b := by
  cases y with
  | non => obtain rfl := p; exact ⟨_, false, .base .non, by cases t <;> exact kit_ty (by decide +kernel), w⟩
  | bl b => obtain rfl := p; exact ⟨_, _, .base (.bl b), by cases t <;> exact kit_ty (by decide +kernel), w⟩
  | int b => obtain rfl := p; exact ⟨_, _, .base (.int b), by cases t <;> exact kit_ty (by decide +kernel), w⟩
  | str b => obtain rfl := p; exact ⟨_, _, .base (.str b), by cases t <;> exact kit_ty (by decide +kernel), w⟩
  | tup b =>
    obtain ⟨a, vs, rfl, tl, ps⟩ := p
    exact ⟨_, _, .base (.tup tl), by cases t <;> exact kit_ty (by decide +kernel), w⟩
  | itp b =>
    obtain ⟨a, vs, rfl, tl, ps⟩ := p
    rcases tl with ⟨o, _, tl⟩ | ⟨o, its, n, _, hk, hcl, _⟩
    · exact ⟨_, _, .fTuple tl, by cases t <;> exact kit_ty (by decide +kernel), w⟩
    · exact ⟨_, _, .kTuple hk hcl, by cases t <;> exact kit_ty (by decide +kernel), w⟩
  | exc c ns xs => exact w.elim
  | ils b =>
    obtain ⟨a, vs, rfl, tl, ps⟩ := p
    rcases tl with ⟨o, tl⟩ | (tl | ⟨o, tl⟩) | ⟨o, its, n, hk, hcl, _⟩
    · exact ⟨_, _, .base (.frz tl), by cases t <;> exact kit_ty (by decide +kernel), w⟩
    · cases tl
    · cases tl
    · exact ⟨_, _, .kList hk hcl, by cases t <;> exact kit_ty (by decide +kernel), w⟩
  | ref i =>
    have w' : (match h[i]? with | some (.lst _) => K (t == .list) | some (.dic _) => K (t == .dict) | _ => False) := w
    obtain ⟨a, e1, rfl⟩ := p
    split at w'
    · rename_i ys e
      obtain ⟨b, vs, e2, k, ps⟩ := r.lst e
      rw [e1] at e2; cases e2
      exact ⟨_, _, .base (.lst k), by cases t <;> exact kit_ty (by decide +kernel), w'⟩
    · rename_i kvs e
      obtain ⟨b, e2, q⟩ := r.get e
      rw [e1] at e2; cases e2
      rcases q with ⟨ws, k, _⟩ | ⟨ws, k, _⟩
      · exact ⟨_, _, .base (.dK k), by cases t <;> exact kit_ty (by decide +kernel), w'⟩
      · exact ⟨_, _, .base (.dT k), by cases t <;> exact kit_ty (by decide +kernel), w'⟩
    · exact w'.elim
theorem boot_it (t : IT) : bootBuiltins (itName t) = some (.type (itName t)) := by cases t <;> decide +kernel
theorem ze_isi {t : IT} {p2 : Pos} (hg : Gl X "isinstance") (hm : X.mg "isinstance" = none) (hg2 : Gl X (itName t)) (hm2 : X.mg (itName t) = none) (ha : PE X a (LE X W (wE Γ x))) (hs : ∀ r, starEach (a :: r) X.env = (false, eval a X.env) :: starEach r X.env) :
    PE X (.Call (.Name "isinstance" p) [a, .Name (itName t) p2] [] pos) (LE X W (wE Γ (.isi x t))) := by
  have hb : PE X (.Name (itName t) p2) (tC (.ty (itName t))) := pe_bltn hg2 hm2 (boot_it t) rfl (by cases t <;> decide) (by cases t <;> decide)
  have hpa : PA X [a, .Name (itName t) p2] (tCons (LE X W (wE Γ x)) (tCons (tC (.ty (itName t))) tNil)) := pa_cons ha (pa_cons hb pa_nil rfl) (hs _)
  refine pe_imp (pe_callB call_isi hg hm (by decide +kernel) hpa (by decide) (by decide) (hs _) rfl) fun σ H Q ⟨ρ, σz, h, F, E, s, kq, kx, w⟩ => ?_
  unfold wE at w
  refine ⟨ρ, σz, h, _, E, s, fun y h1 ρ1 H1 v n1 r1 p1 w1 => ?_, kx, w⟩
  obtain ⟨ty, b, tx, k, w1⟩ := isT_rule r1 p1 w1
  exact ⟨v, _, ty, _, b, rfl, .ty _, tx, k, (kq.nx n1).bl r1 w1⟩

/-! ### methods of lists -/
theorem tyV_list {H : Hp} {a : Addr} {vs : List V} (k : H a = some (.lst vs)) : tyV X.K "list" (.ref a) H := .inl ⟨rfl, _, SqL.of k⟩
theorem listed {h : Hep} {r : Nat} {K : List PV → Prop} {ρ : List Addr} {H : Hp} {v : V} (hr : HR X.K X.mg ρ h H) (p : Rep X.K ρ H (.ref r) v) (w : getL h r K) : ∃ a vs ys, v = .ref a ∧ ρ[r]? = some a ∧ H a = some (.lst vs) ∧ h[r]? = some (.lst ys) ∧ Reps X.K ρ H ys vs ∧ K ys := by
  obtain ⟨ys, e, w⟩ := getL_some w
  obtain ⟨a, e1, rfl⟩ := p
  obtain ⟨b, vs, e2, k, ps⟩ := hr.lst e
  rw [e1] at e2; cases e2
  exact ⟨a, vs, ys, rfl, e1, k, e, ps, w⟩
/-- the list at a written -/
theorem KQok.setL {ρ : List Addr} {h : Hep} {H : Hp} {F : KQ} {Q : VK} (kq : KQok X ρ H F Q) (r : HR X.K X.mg ρ h H) {i : Nat} {a : Addr} (e : ρ[i]? = some a) {ys : List PV} {vs : List V} (ps : Reps X.K ρ H ys vs) {z : PV} {v : V} (pz : Rep X.K ρ H z v) (w : F z (h.set i (.lst ys))) : Q v (upd H a (.lst vs)) := by
  have n : Nx ρ H ρ (upd H a (.lst vs)) := ⟨⟨[], by simp⟩, fun b o q z => by rw [upd_ne (fun y => z (by rw [y]; exact List.mem_of_getElem? e) : b ≠ a)]; exact q, fun b q z => absurd q z⟩
  obtain ⟨r1, n1⟩ := r.write e (u := .lst vs) (o := .lst ys) ⟨vs, upd_same, ps.nx r n⟩
  exact kq _ _ _ _ _ n1 r1 (pz.nx r n) w
theorem mi_ty {h : Hep} {ρ : List Addr} {H : Hp} {y : PV} {v : V} (r : HR X.K X.mg ρ h H) (p : Rep X.K ρ H y v) (w : isL h y) : tyV X.K "list" v H := by
  cases y with
  | ref i =>
    obtain ⟨a, vs, ys, rfl, e1, k, _⟩ := listed r p (show getL h i fun _ => True from w)
    exact tyV_list k
  | _ => exact w.elim
theorem ze_mi1 {m : MI} {id : String} {nm : Str} {apos : Pos} {rr : V → List V → Hp → VK → Prop} (slot : Slot "list" nm id) (hty : typeOf (.builtin id) = pure (.type "method_descriptor")) (hm : MtR X id rr)
    (ho : ∀ (ρ : List Addr) (h : Hep) (H : Hp) (z : PV) (zs : List PV) (v : V) (vs : List V) (F : KQ) (Q : VK), HR X.K X.mg ρ h H → Rep X.K ρ H z v → Reps X.K ρ H zs vs → KQok X ρ H F Q → miW m z zs h F → rr v vs H Q)
    (ha : PE X a (LE X W (wE Γ x))) (hb : PE X b (LE X W (wE Γ y))) (hbase : attributeBase a nm X.env (eval a X.env) = eval a X.env) (hline : (apos.endLine == pos.line) = true) (hs : ∀ r, starEach (b :: r) X.env = (false, eval b X.env) :: starEach r X.env) :
    PE X (.Call (.Attribute a nm apos) [b] [] pos) (LE X W (wE Γ (.mi m x [y]))) := by
  refine pe_imp (pe_bm PySem.F.plainAttrs_list slot hty hm ha (pa_cons hb pa_nil (hs _)) hbase (by rw [hs]; rfl) hline (hs _) rfl) fun σ H Q ⟨ρ, σz, h, F, E, s, kq, kx, w⟩ => ?_
  unfold wE at w
  refine ⟨ρ, σz, h, _, E, s, fun z h1 ρ1 H1 v n1 r1 p1 w1 => ⟨mi_ty r1 p1 w1.1, ?_⟩, kx, w⟩
  obtain ⟨l, w1⟩ := w1
  unfold wEs at w1
  refine ⟨ρ1, σz, h1, _, E, s.nx n1 r1, fun z2 h2 ρ2 H2 v2 n2 r2 p2 w2 => ?_, kx.nx n1, w1⟩
  unfold wEs at w2
  exact ho ρ2 h2 H2 z [z2] v [v2] F Q r2 (p1.nx r1 n2) (Reps.one p2) (kq.nx (n1.trans n2)) w2
theorem ze_mi0 {m : MI} {id : String} {nm : Str} {apos : Pos} {rr : V → List V → Hp → VK → Prop} (slot : Slot "list" nm id) (hty : typeOf (.builtin id) = pure (.type "method_descriptor")) (hm : MtR X id rr)
    (ho : ∀ (ρ : List Addr) (h : Hep) (H : Hp) (z : PV) (v : V) (F : KQ) (Q : VK), HR X.K X.mg ρ h H → Rep X.K ρ H z v → KQok X ρ H F Q → miW m z [] h F → rr v [] H Q)
    (ha : PE X a (LE X W (wE Γ x))) (hbase : attributeBase a nm X.env (eval a X.env) = eval a X.env) (hline : (apos.endLine == pos.line) = true) :
    PE X (.Call (.Attribute a nm apos) [] [] pos) (LE X W (wE Γ (.mi m x []))) := by
  refine pe_imp (pe_bm0 PySem.F.plainAttrs_list slot hty hm ha hbase hline) fun σ H Q ⟨ρ, σz, h, F, E, s, kq, kx, w⟩ => ?_
  unfold wE at w
  refine ⟨ρ, σz, h, _, E, s, fun z h1 ρ1 H1 v n1 r1 p1 w1 => ⟨mi_ty r1 p1 w1.1, ?_⟩, kx, w⟩
  obtain ⟨l, w1⟩ := w1
  unfold wEs at w1
  exact ho ρ1 h1 H1 z v F Q r1 p1 (kq.nx n1) w1
theorem mo_append {ρ : List Addr} {h : Hep} {H : Hp} {z : PV} {zs : List PV} {v : V} {vs : List V} {F : KQ} {Q : VK} (r : HR X.K X.mg ρ h H) (p : Rep X.K ρ H z v) (ps : Reps X.K ρ H zs vs) (kq : KQok X ρ H F Q) (w : miW .append z zs h F) : rAppend v vs H Q := by
  match z, zs, w with
  | .ref i, [y], w =>
    obtain ⟨u, rfl, py⟩ := reps1 ps
    obtain ⟨a, ws, ys, rfl, e1, k, e, qs, l, w⟩ := listed r p (show getL h i fun ys => ys.length < big ∧ F .non (h.set i (.lst (ys ++ [y]))) from w)
    exact ⟨a, ws, u, rfl, rfl, k, by rw [← big_eq, ← qs.len]; exact l, kq.setL r e1 (qs.app (Reps.one py)) (z := .non) rfl w⟩
theorem mo_popAt {ρ : List Addr} {h : Hep} {H : Hp} {z : PV} {zs : List PV} {v : V} {vs : List V} {F : KQ} {Q : VK} (r : HR X.K X.mg ρ h H) (p : Rep X.K ρ H z v) (ps : Reps X.K ρ H zs vs) (kq : KQok X ρ H F Q) (w : miW .popAt z zs h F) : rPopAt v vs H Q := by
  match z, zs, w with
  | .ref i, [.int n], w =>
    obtain ⟨u, rfl, py⟩ := reps1 ps
    obtain rfl := py
    obtain ⟨a, ws, ys, rfl, e1, k, e, qs, j, y, z1, z2, ej, g, w⟩ := listed r p (show getL h i fun ys => ∃ j v, -(2 ^ 63) ≤ n ∧ n < 2 ^ 63 ∧ ixN ys.length n = some j ∧ ys[j]? = some v ∧ F v (h.set i (.lst (ys.eraseIdx j))) from w)
    obtain ⟨u, g2, pu⟩ := qs.get g
    exact ⟨a, ws, n, j, u, rfl, rfl, k, z1, z2, by rw [← qs.len]; exact (ixN_seq ej).1, g2, kq.setL r e1 (qs.eraseIdx j) pu w⟩
theorem mo_pop {ρ : List Addr} {h : Hep} {H : Hp} {z : PV} {v : V} {F : KQ} {Q : VK} (r : HR X.K X.mg ρ h H) (p : Rep X.K ρ H z v) (kq : KQok X ρ H F Q) (w : miW .pop z [] h F) : rPop v [] H Q := by
  match z, w with
  | .ref i, w =>
    obtain ⟨a, ws, ys, rfl, e1, k, e, qs, y, g, w⟩ := listed r p (show getL h i fun ys => ∃ v, ys[ys.length - 1]? = some v ∧ F v (h.set i (.lst ys.dropLast)) from w)
    obtain ⟨u, g2, pu⟩ := qs.get g
    exact ⟨a, ws, u, rfl, rfl, k, by rw [← qs.len]; exact g2, kq.setL r e1 qs.dropLast pu w⟩

theorem mo_index {ρ : List Addr} {h : Hep} {H : Hp} {z : PV} {zs : List PV} {v : V} {vs : List V} {F : KQ} {Q : VK} (r : HR X.K X.mg ρ h H) (p : Rep X.K ρ H z v) (ps : Reps X.K ρ H zs vs) (kq : KQok X ρ H F Q) (w : miW .index z zs h F) : rIndexD X.K v vs H Q := by
  match z, zs, w with
  | .ref i, [y], w =>
    obtain ⟨u, rfl, py⟩ := reps1 ps
    obtain ⟨a, ws, ys, rfl, e1, k, e, qs, d, ds, j, z, hd, sd, hds, cl, hz, hzj, hno, w⟩ := listed r p (show getL h i fun ys => ∃ d ds j z, dat h 59 y = some d ∧ SeqAt.shaped d = true ∧ datAll (dat h 59) ys = some ds ∧ PyData.canLayAll0 ds = true ∧ ds[j]? = some z ∧ PyData.eqv z d = true ∧
      (∀ (m : Nat) (z' : PyData), m < j → ds[m]? = some z' → PyData.eqv z' d = false) ∧ F (.int (j : Nat)) h from w)
    have hl : dat h 60 (.ref i) = some (.list ds) := by
      rw [dat, e]
      show (datAll (dat h 59) ys).map PyData.list = _
      rw [hds]; rfl
    exact ⟨a, u, d, ds, j, z, rfl, rfl, dat_dp r 60 _ _ _ p hl, dat_dp r 59 _ _ _ py hd, dat_shaped (by decide) hl cl, sd, hz, hzj, hno, kq.int r w⟩
theorem mo_count {ρ : List Addr} {h : Hep} {H : Hp} {z : PV} {zs : List PV} {v : V} {vs : List V} {F : KQ} {Q : VK} (r : HR X.K X.mg ρ h H) (p : Rep X.K ρ H z v) (ps : Reps X.K ρ H zs vs) (kq : KQok X ρ H F Q) (w : miW .count z zs h F) : Zh.rCountD X.K v vs H Q := by
  match z, zs, w with
  | .ref i, [y], w =>
    obtain ⟨u, rfl, py⟩ := reps1 ps
    obtain ⟨a, ws, ys, rfl, e1, k, e, qs, d, ds, hd, sd, hds, cl, w⟩ := listed r p (show getL h i fun ys => ∃ d ds, dat h 59 y = some d ∧ SeqAt.shaped d = true ∧ datAll (dat h 59) ys = some ds ∧ PyData.canLayAll0 ds = true ∧ F (.int ((ds.countP fun z => PyData.eqv z d : Nat) : Int)) h from w)
    have hl : dat h 60 (.ref i) = some (.list ds) := by
      rw [dat, e]
      show (datAll (dat h 59) ys).map PyData.list = _
      rw [hds]; rfl
    exact ⟨a, u, d, ds, rfl, rfl, dat_dp r 60 _ _ _ p hl, dat_dp r 59 _ _ _ py hd, dat_shaped (by decide) hl cl, sd, kq.int r w⟩
theorem mo_remove {ρ : List Addr} {h : Hep} {H : Hp} {z : PV} {zs : List PV} {v : V} {vs : List V} {F : KQ} {Q : VK} (r : HR X.K X.mg ρ h H) (p : Rep X.K ρ H z v) (ps : Reps X.K ρ H zs vs) (kq : KQok X ρ H F Q) (w : miW .remove z zs h F) : rRemI v vs H Q := by
  match z, zs, w with
  | .ref i, [.int n], w =>
    obtain ⟨u, rfl, py⟩ := reps1 ps
    obtain rfl := py
    obtain ⟨a, ws, ys, rfl, e1, k, e, qs, ns, j, en, hj, hno, w⟩ := listed r p (show getL h i fun ys => ∃ ns j, intsOf ys = some ns ∧ ns[j]? = some n ∧ (∀ m : Nat, m < j → ns[m]? ≠ some n) ∧ F .non (h.set i (.lst (ys.eraseIdx j))) from w)
    obtain rfl := qs.ints en
    refine ⟨a, ns, n, j, rfl, rfl, k, hj, hno, ?_⟩
    rw [← erase_mapI]
    exact kq.setL r e1 (qs.eraseIdx j) (z := .non) rfl w
theorem mo_extend {ρ : List Addr} {h : Hep} {H : Hp} {z : PV} {zs : List PV} {v : V} {vs : List V} {F : KQ} {Q : VK} (r : HR X.K X.mg ρ h H) (p : Rep X.K ρ H z v) (ps : Reps X.K ρ H zs vs) (kq : KQok X ρ H F Q) (w : miW .extend z zs h F) : rExtend v vs H Q := by
  match z, zs, w with
  | .ref i, [.ref j], w =>
    obtain ⟨u, rfl, py⟩ := reps1 ps
    obtain ⟨a, ws, ys, rfl, e1, k, e, qs, w⟩ := listed r p (show getL h i fun ys => getL h j fun zs => ys.length + zs.length ≤ big ∧ F .non (h.set i (.lst (ys ++ zs))) from w)
    obtain ⟨b, us, zs, rfl, e2, k2, e3, qz, l, w⟩ := listed r py w
    exact ⟨a, b, ws, us, rfl, rfl, k, k2, by rw [← big_eq, ← qs.len, ← qz.len]; exact l, kq.setL r e1 (qs.app qz) (z := .non) rfl w⟩
theorem mo_clear {ρ : List Addr} {h : Hep} {H : Hp} {z : PV} {v : V} {F : KQ} {Q : VK} (r : HR X.K X.mg ρ h H) (p : Rep X.K ρ H z v) (kq : KQok X ρ H F Q) (w : miW .clear z [] h F) : rClear v [] H Q := by
  match z, w with
  | .ref i, w =>
    obtain ⟨a, ws, ys, rfl, e1, k, e, qs, w⟩ := listed r p (show getL h i fun ys => F .non (h.set i (.lst [])) from w)
    exact ⟨a, ws, rfl, rfl, k, kq.setL r e1 (ys := []) (vs := []) rfl (z := .non) rfl w⟩

/-! ### d.get -/
theorem getD_some {h : Hep} {r : Nat} {F : List (Ky × PV) → Prop} (w : getD h r F) : ∃ kvs, h[r]? = some (.dic kvs) ∧ F kvs := by
  unfold getD at w
  split at w
  · exact ⟨_, by assumption, w⟩
  · exact w.elim
/-- what a dict tells of a key, there or not -/
theorem dic_get {pins : List (Addr × Obj)} {σ : L2.St} {s : Shared} {ρ : List Addr} {h : Hep} {H : Hp} {i : Nat} {kvs : List (Ky × PV)} {k : Ky} {a : Addr} {y : PV} {u : V} (I : Inv X pins σ H s) (r : HR X.K X.mg ρ h H) (e : h[i]? = some (.dic kvs)) (e1 : ρ[i]? = some a) (hk : keyOf y = some k) (p : Rep X.K ρ H y u) (kk : kindOk k kvs = true) :
    ∃ H1 o, Inv X pins σ H1 s ∧ Nx ρ H ρ H1 ∧ HR X.K X.mg ρ h H1 ∧ DGet H1 a u o ∧ ((dget k kvs = none ∧ o = none) ∨ ∃ z w, dget k kvs = some z ∧ o = some w ∧ Rep X.K ρ H1 z w) := by
  cases g : dget k kvs with
  | some z =>
    obtain ⟨w, dg, rz⟩ := dic_some r e e1 hk p g
    exact ⟨H, some w, I, .refl, r, dg, .inr ⟨z, w, rfl, rfl, rz⟩⟩
  | none =>
    obtain ⟨H1, o, I1, n, r1, dg, eo⟩ := dic_any I r e e1 hk p kk
    rw [g] at eo
    exact ⟨H1, o, I1, n, r1, dg, .inl ⟨rfl, by cases o <;> simp_all⟩⟩
theorem isD_rep {h : Hep} {ρ : List Addr} {H : Hp} {y : PV} {v : V} (r : HR X.K X.mg ρ h H) (p : Rep X.K ρ H y v) (w : isD h y) : ∃ (i : Nat) (a : Addr), y = .ref i ∧ v = .ref a ∧ ρ[i]? = some a ∧ IsD H a := by
  cases y with
  | ref i =>
    obtain ⟨kvs, e, _⟩ := getD_some (show getD h i fun _ => True from w)
    obtain ⟨a, e1, rfl⟩ := p
    obtain ⟨b, e2, q⟩ := r.get e
    rw [e1] at e2; cases e2
    rcases q with ⟨ws, k, _⟩ | ⟨ws, k, _⟩
    · exact ⟨i, a, rfl, rfl, e1, .inl ⟨ws, .inl k⟩⟩
    · exact ⟨i, a, rfl, rfl, e1, .inr ⟨ws, .inl k⟩⟩
  | _ => exact w.elim
/-- a dict's method, its arguments' trees plain -/
theorem ze_dg1 {k : Ex} {apos : Pos} (hu : X.A.units + 65 < cLine) (ha : PE X a (LE X W (wE Γ x))) (hb : PE X b (LE X W (wE Γ k))) (hbase : attributeBase a "get" X.env (eval a X.env) = eval a X.env) (hline : (apos.endLine == pos.line) = true) (hs : ∀ r, starEach (b :: r) X.env = (false, eval b X.env) :: starEach r X.env) :
    PE X (.Call (.Attribute a "get" apos) [b] [] pos) (LE X W (wE Γ (.dg1 x k))) := by
  have tr : backTo pos (starEach [b] X.env) = [(false, eval b X.env)] := by rw [hs]; rfl
  refine ⟨fun pins s σ H Q I ⟨ρ, σz, h, F, E, sr, kq, kx, w⟩ => ?_⟩
  unfold wE at w
  refine wpAny_Call_method hbase (by rw [tr]; rfl) hline PySem.F.plainAttrs_dict PySem.F.slot_dict_get PySem.F.type_dict_get (thn (ha.run pins s σ H (fun v H1 => ∃ (ρ1 : List Addr) (h1 : Hep) (y : PV), Nx ρ H ρ1 H1 ∧ HR X.K X.mg ρ1 h1 H1 ∧ Rep X.K ρ1 H1 y v ∧ isD h1 y ∧ wE Γ k σz h1 (fun z h2 => dgetW h2 y z fun o => F (o.getD .non) h2) E) I
    ⟨ρ, σz, h, _, E, sr, fun y h1 ρ1 H1 v n1 r1 p1 w1 => ⟨ρ1, h1, y, n1, r1, p1, w1.1, w1.2⟩, kx, w⟩) fun u s1 ⟨v, H1, I1, rv, ρ1, h1, y, n1, r1, p1, d, w1⟩ => ?_)
  obtain ⟨i, c, ey, ev, ei, isd⟩ := isD_rep r1 p1 d
  subst ey ev
  obtain rfl : u = Value.ref c := rv
  obtain ⟨t1, t2, _⟩ := isD_at I1 isd
  refine ⟨t1, t2, ?_⟩
  rw [tr]
  refine Calls.callWith_builtin rfl (Calls.evalArgs_plain (Calls.spliced_cons (thn (hb.run pins s1 σ H1 (fun z H2 => ∃ (ρ2 : List Addr) (h2 : Hep) (q : PV), Nx ρ1 H1 ρ2 H2 ∧ HR X.K X.mg ρ2 h2 H2 ∧ Rep X.K ρ2 H2 q z ∧ dgetW h2 (.ref i) q fun o => F (o.getD .non) h2) I1
    ⟨ρ1, σz, h1, _, E, sr.nx n1 r1, fun z h2 ρ2 H2 v2 n2 r2 p2 w2 => ⟨ρ2, h2, z, n2, r2, p2, w2⟩, kx.nx n1, w1⟩) fun uz s2 ⟨z, H2, I2, rz, ρ2, h2, q, n2, r2, p2, w2⟩ => Calls.spliced_nil ?_)))
  obtain ⟨kvs, ek, kk, hk, ok, w2⟩ := getD_some (show getD h2 i fun kvs => ∃ k, keyOf q = some k ∧ kindOk k kvs = true ∧ F ((dget k kvs).getD .non) h2 from w2)
  obtain ⟨H3, o, I3, n3, r3, dg, ov⟩ := dic_get I2 r2 ek (n2.at ei) hk p2 ok
  refine d_get1 (by omega) I3 dg rz fun w' s3 I4 rw' => ⟨_, H3, I4, rw', ?_⟩
  have kq3 := ((kq.nx n1).nx n2).nx n3
  rcases ov with ⟨g, rfl⟩ | ⟨z', w'', g, rfl, rp⟩
  · rw [g] at w2
    exact kq3.non r3 w2
  · rw [g] at w2
    exact kq3.here r3 rp w2
theorem ze_dg2 {k dv : Ex} {apos : Pos} (hu : X.A.units + 65 < cLine) (ha : PE X a (LE X W (wE Γ x))) (hb : PE X b (LE X W (wE Γ k))) (hd : PE X c (LE X W (wE Γ dv))) (hbase : attributeBase a "get" X.env (eval a X.env) = eval a X.env) (hline : (apos.endLine == pos.line) = true) (hs : ∀ r, starEach (b :: r) X.env = (false, eval b X.env) :: starEach r X.env) (hs2 : ∀ r, starEach (c :: r) X.env = (false, eval c X.env) :: starEach r X.env) :
    PE X (.Call (.Attribute a "get" apos) [b, c] [] pos) (LE X W (wE Γ (.dg2 x k dv))) := by
  have tr : backTo pos (starEach [b, c] X.env) = [(false, eval b X.env), (false, eval c X.env)] := by rw [hs, hs2]; rfl
  refine ⟨fun pins s σ H Q I ⟨ρ, σz, h, F, E, sr, kq, kx, w⟩ => ?_⟩
  unfold wE at w
  refine wpAny_Call_method hbase (by rw [tr]; rfl) hline PySem.F.plainAttrs_dict PySem.F.slot_dict_get PySem.F.type_dict_get (thn (ha.run pins s σ H (fun v H1 => ∃ (ρ1 : List Addr) (h1 : Hep) (y : PV), Nx ρ H ρ1 H1 ∧ HR X.K X.mg ρ1 h1 H1 ∧ Rep X.K ρ1 H1 y v ∧ isD h1 y ∧ wE Γ k σz h1 (fun z h2 => wE Γ dv σz h2 (fun t h3 => dgetW h3 y z fun o => F (o.getD t) h3) E) E) I
    ⟨ρ, σz, h, _, E, sr, fun y h1 ρ1 H1 v n1 r1 p1 w1 => ⟨ρ1, h1, y, n1, r1, p1, w1.1, w1.2⟩, kx, w⟩) fun u s1 ⟨v, H1, I1, rv, ρ1, h1, y, n1, r1, p1, d, w1⟩ => ?_)
  obtain ⟨i, c', ey, ev, ei, isd⟩ := isD_rep r1 p1 d
  subst ey ev
  obtain rfl : u = Value.ref c' := rv
  obtain ⟨t1, t2, _⟩ := isD_at I1 isd
  refine ⟨t1, t2, ?_⟩
  rw [tr]
  have sr1 := sr.nx n1 r1
  refine Calls.callWith_builtin rfl (Calls.evalArgs_plain (Calls.spliced_cons (thn (hb.run pins s1 σ H1 (fun z H2 => ∃ (ρ2 : List Addr) (h2 : Hep) (q : PV), Nx ρ1 H1 ρ2 H2 ∧ HR X.K X.mg ρ2 h2 H2 ∧ Rep X.K ρ2 H2 q z ∧ wE Γ dv σz h2 (fun t h3 => dgetW h3 (.ref i) q fun o => F (o.getD t) h3) E) I1
    ⟨ρ1, σz, h1, _, E, sr1, fun z h2 ρ2 H2 v2 n2 r2 p2 w2 => ⟨ρ2, h2, z, n2, r2, p2, w2⟩, kx.nx n1, w1⟩) fun uz s2 ⟨z, H2, I2, rz, ρ2, h2, q, n2, r2, p2, w2⟩ =>
    Calls.spliced_cons (thn (hd.run pins s2 σ H2 (fun t H3 => ∃ (ρ3 : List Addr) (h3 : Hep) (tv : PV), Nx ρ2 H2 ρ3 H3 ∧ HR X.K X.mg ρ3 h3 H3 ∧ Rep X.K ρ3 H3 tv t ∧ dgetW h3 (.ref i) q fun o => F (o.getD tv) h3) I2
    ⟨ρ2, σz, h2, _, E, sr1.nx n2 r2, fun t h3 ρ3 H3 v3 n3 r3 p3 w3 => ⟨ρ3, h3, t, n3, r3, p3, w3⟩, (kx.nx n1).nx n2, w2⟩) fun ut s3 ⟨t, H3, I3, rt, ρ3, h3, tv, n3, r3, p3, w3⟩ => Calls.spliced_nil ?_))))
  obtain ⟨kvs, ek, kk, hk, ok, w3⟩ := getD_some (show getD h3 i fun kvs => ∃ k, keyOf q = some k ∧ kindOk k kvs = true ∧ F ((dget k kvs).getD tv) h3 from w3)
  obtain ⟨H4, o, I4, n4, r4, dg, ov⟩ := dic_get I3 r3 ek (n3.at (n2.at ei)) hk (p2.nx r2 n3) ok
  refine d_get2 (by omega) I4 dg rz rt fun w' s4 I5 rw' => ⟨_, H4, I5, rw', ?_⟩
  have kq4 := (((kq.nx n1).nx n2).nx n3).nx n4
  rcases ov with ⟨g, rfl⟩ | ⟨z', w'', g, rfl, rp⟩
  · rw [g] at w3
    exact kq4.here r4 (p3.nx r3 n4) w3
  · rw [g] at w3
    exact kq4.here r4 rp w3

/-! ### methods of texts; dicts written out -/
theorem strs_rep {K : PySem.W.Frag} {ρ : List Addr} {H : Hp} : ∀ {xs : List PV} {vs : List V} {ss : List Str}, strsOf xs = some ss → Reps K ρ H xs vs → vs = ss.map V.str
  | [], vs, ss, e, p => by cases p; simp [strsOf] at e; subst e; rfl
  | x :: xs, vs, ss, e, ⟨v, r, e1, p, ps⟩ => by
    subst e1
    cases x with
    | str s =>
      cases h : strsOf xs with
      | none => simp [strsOf, h] at e
      | some ms =>
        simp [strsOf, h] at e
        subst e
        obtain rfl := p
        rw [strs_rep h ps]
        rfl
    | _ => simp [strsOf] at e
theorem ze_smG {m : SM} {id : String} {nm : Str} {k : Ex} {apos : Pos} {rr : V → List V → Hp → VK → Prop} (slot : Slot "str" nm id) (hty : typeOf (.builtin id) = pure (.type "method_descriptor")) (hm : MtR X id rr)
    (ho : ∀ (ρ : List Addr) (h : Hep) (H : Hp) (z y : PV) (v u : V) (F : KQ) (Q : VK), HR X.K X.mg ρ h H → Rep X.K ρ H z v → Rep X.K ρ H y u → KQok X ρ H F Q → smW m z y h F → rr v [u] H Q)
    (ha : PE X a (LE X W (wE Γ x))) (hb : PE X b (LE X W (wE Γ k))) (hbase : attributeBase a nm X.env (eval a X.env) = eval a X.env) (hline : (apos.endLine == pos.line) = true) (hs : ∀ r, starEach (b :: r) X.env = (false, eval b X.env) :: starEach r X.env) :
    PE X (.Call (.Attribute a nm apos) [b] [] pos) (LE X W (wE Γ (.sm m x k))) := by
  refine pe_imp (pe_bm PySem.F.plainAttrs_str slot hty hm ha (pa_cons hb pa_nil (hs _)) hbase (by rw [hs]; rfl) hline (hs _) rfl) fun σ H Q ⟨ρ, σz, h, F, E, s, kq, kx, w⟩ => ?_
  unfold wE at w
  refine ⟨ρ, σz, h, _, E, s, fun z h1 ρ1 H1 v n1 r1 p1 w1 => ⟨?_, ?_⟩, kx, w⟩
  · obtain ⟨t, _⟩ := w1
    cases z with
    | str s =>
      obtain rfl := p1
      exact (rfl : "str" = "str")
    | _ => exact t.elim
  obtain ⟨l, w1⟩ := w1
  refine ⟨ρ1, σz, h1, _, E, s.nx n1 r1, fun z2 h2 ρ2 H2 v2 n2 r2 p2 w2 => ?_, kx.nx n1, w1⟩
  exact ho ρ2 h2 H2 z z2 v v2 F Q r2 (p1.nx r1 n2) p2 (kq.nx (n1.trans n2)) w2
theorem so_join {ρ : List Addr} {h : Hep} {H : Hp} {z y : PV} {v u : V} {F : KQ} {Q : VK} (r : HR X.K X.mg ρ h H) (p : Rep X.K ρ H z v) (p2 : Rep X.K ρ H y u) (kq : KQok X ρ H F Q) (w : smW .join z y h F) :
    ∃ a p, ∃ ys : List Str, v = .str a ∧ [u] = [.ref p] ∧ (SqL X.K H p (ys.map V.str) ∨ SqT X.K H p (ys.map V.str)) ∧ (ys.map (·.length)).sum + ys.length * a.length ≤ 16777216 ∧ Q (.str (Txt.join a ys)) H := by
  cases z with
  | str a =>
    obtain rfl := p
    obtain ⟨q, vs, ys, rfl, sq, ps, ss, e, l, w⟩ := seqW_some r p2 (show seqW h y fun ys => ∃ ss, strsOf ys = some ss ∧ (ss.map (·.length)).sum + ss.length * a.length ≤ big ∧ F (.str (joinZ a ss)) h from w)
    obtain rfl := strs_rep e ps
    exact ⟨a, q, ss, rfl, rfl, sq, l, kq.str r w⟩
  | _ => exact w.elim
theorem so_index {ρ : List Addr} {h : Hep} {H : Hp} {z y : PV} {v u : V} {F : KQ} {Q : VK} (r : HR X.K X.mg ρ h H) (p : Rep X.K ρ H z v) (p2 : Rep X.K ρ H y u) (kq : KQok X ρ H F Q) (w : smW .index z y h F) :
    ∃ a b i rest, v = .str a ∧ [u] = [.str b] ∧ Builtin.Str.occurrences a b 0 a.length 1 = i :: rest ∧ Q (.int (i : Nat)) H := by
  cases z with
  | str a =>
    obtain rfl := p
    cases y with
    | str b =>
      obtain rfl := p2
      obtain ⟨i, rest, e, w⟩ := (show ∃ (i : Nat) (rest : List Nat), Builtin.Str.occurrences a b 0 a.length 1 = i :: rest ∧ F (.int i) h from w)
      exact ⟨a, b, i, rest, rfl, rfl, e, kq.int r w⟩
    | _ => exact w.elim
  | _ => exact w.elim
/-- the readings of a written dict's pairs -/
def trsOf (X : Cx) (W : WX) (Γ : List Spec) : List At → List Ex → List (TE × TE)
  | k :: ks, x :: xs => (tC (kV k), LE X W (wE Γ x)) :: trsOf X W Γ ks xs
  | _, _ => []
theorem tp_of : ∀ {ks : List At} {xs : List Ex} {ρ : List Addr} {σz : Env} {h : Hep} {F : List PV → Hep → Prop} {E : KX} {σ : L2.St} {H : Hp} {Q : List (V × V) → Hp → Prop}, ks.length = xs.length → SR X ρ σz h σ H →
    (∀ (ys : List PV) (h' : Hep) (ρ' : List Addr) (H' : Hp) (vs : List V), Nx ρ H ρ' H' → HR X.K X.mg ρ' h' H' → Reps X.K ρ' H' ys vs → ys.length = ks.length → F ys h' → Q ((ks.zip vs).map fun p => (kV p.1, p.2)) H') → KXok X W σ ρ H E → wEs Γ xs σz h F E → tPairs (trsOf X W Γ ks xs) σ H Q
  | [], [], ρ, σz, h, F, E, σ, H, Q, _, sr, k, kx, w => by
    unfold wEs at w
    exact k [] h ρ H [] Nx.refl sr.hr rfl rfl w
  | [], _ :: _, _, _, _, _, _, _, _, _, e, _, _, _, _ => nomatch e
  | _ :: _, [], _, _, _, _, _, _, _, _, e, _, _, _, _ => nomatch e
  | y :: ks, x :: xs, ρ, σz, h, F, E, σ, H, Q, e, sr, k, kx, w => by
    unfold wEs at w
    show LE X W (wE Γ x) σ H _
    refine ⟨ρ, σz, h, _, E, sr, fun z h1 ρ1 H1 v n1 r1 p1 w1 => ?_, kx, w⟩
    show tPairs (trsOf X W Γ ks xs) σ H1 _
    refine tp_of (F := fun ys h2 => F (z :: ys) h2) (by simpa using e) (sr.nx n1 r1) (fun ys h2 ρ2 H2 vs n2 r2 ps le w2 => ?_) (kx.nx n1) w1
    exact k (z :: ys) h2 ρ2 H2 (v :: vs) (n1.trans n2) r2 ⟨v, vs, rfl, p1.nx r1 n2, ps⟩ (by rw [List.length_cons, List.length_cons, le]) w2
/-- a dict that stood empty while its pairs were made -/
theorem HR.allocD {K : PySem.W.Frag} {mg : Str → Option Value} {ρ : List Addr} {h : Hep} {H : Hp} (r : HR K mg ρ h H) {p : Addr} (hp : p ∉ ρ) (e : H p = some (.dK [])) {u : HO} {o : Ob} (new : Stay K ρ H (ρ ++ [p]) (upd H p u) → RepO K mg (ρ ++ [p]) (upd H p u) o p) : HR K mg (ρ ++ [p]) (h ++ [o]) (upd H p u) := by
  have ne : ∀ {a : Addr} {x : HO}, H a = some x → x ≠ .dK [] → a ≠ p := fun {a x} q z y => by
    rw [y, e] at q
    cases q
    exact z rfl
  have s : Stay K ρ H (ρ ++ [p]) (upd H p u) := by
    refine ⟨fun a vs t => ?_, fun a vs t => ?_, fun a vs t => ?_, fun a cls d t => ?_, fun a fs t => ?_, fun i a q => ?_⟩
    · exact (upd_ne (ne t fun z => by cases z)).trans t
    · rcases t with ⟨ob, t⟩ | t
      · exact .inl ⟨ob, (upd_ne (ne t fun z => by cases z)).trans t⟩
      · exact .inr t
    · rcases t with ⟨ob, d, t⟩ | t
      · exact .inl ⟨ob, d, (upd_ne (ne t fun z => by cases z)).trans t⟩
      · exact .inr t
    · exact (upd_ne (ne t fun z => by have z' : HO.ext _ = HO.dK [] := z; cases z')).trans t
    · exact (upd_ne (ne t fun z => by cases z)).trans t
    · rw [List.getElem?_append_left (List.getElem?_eq_some_iff.mp q).1]
      exact q
  refine ⟨by rw [List.length_append, List.length_append, r.len] <;> rfl, ?_, fun i w a h1 h2 => ?_⟩
  · rw [List.nodup_append]
    refine ⟨r.nd, by simp, fun a ha b hb => ?_⟩
    rw [List.mem_singleton.mp hb]
    exact fun z => hp (z ▸ ha)
  · by_cases hi : i < h.length
    · rw [List.getElem?_append_left hi] at h1
      rw [List.getElem?_append_left (by rw [r.len]; exact hi)] at h2
      refine RepO.stay s ?_ (r.ob i w a h1 h2)
      exact upd_ne fun z => hp (z ▸ List.mem_of_getElem? h2)
    · have hl : i < (h ++ [o]).length := (List.getElem?_eq_some_iff.mp h1).1
      rw [List.length_append] at hl
      have hi' : i = h.length := by simp at hl; omega
      subst hi'
      rw [List.getElem?_append_right (Nat.le_refl _), Nat.sub_self] at h1
      rw [← r.len, List.getElem?_append_right (Nat.le_refl _), Nat.sub_self] at h2
      cases h1
      cases h2
      exact new s
theorem zip_rd {K : PySem.W.Frag} {ρ : List Addr} {H : Hp} : ∀ {ks : List At} {ys : List PV} {vs : List V}, Reps K ρ H ys vs → RepD1 K ρ H ((ks.zip ys).map fun p => (Ky.one p.1, p.2)) (ks.zip vs)
  | [], _, _, _ => rfl
  | k :: ks, [], _, p => by cases p; exact rfl
  | k :: ks, y :: ys, _, ⟨v, r, e, p, ps⟩ => by
    subst e
    exact ⟨k, v, _, rfl, rfl, p, zip_rd ps⟩
theorem ze_dcd {ks : List At} {xs : List Ex} {keys : List (Option Expr)} (hk : ks.length = xs.length) (h1 : 1 ≤ ks.length) (h15 : ks.length ≤ 15) (hkk : keys.length = ks.length) (hall : keys.all (·.isSome) = true) (hl : keys.length = es.length)
    (hp : PPs X pos keys es (trsOf X W Γ ks xs)) : PE X (.Dict keys es pos) (LE X W (wE Γ (.dcd ks xs))) := by
  have h0 : keys ≠ [] := fun z => by rw [z] at hkk; rw [← hkk] at h1; exact absurd h1 (by decide)
  refine pe_imp (pe_disp hp hall hl h0 (by omega)) fun σ H Q ⟨ρ, σz, h, F, E, s, kq, kx, w⟩ => fun p hp => ?_
  unfold wE at w
  obtain ⟨r1, n1⟩ := s.hr.tupl hp (.dK [])
  refine tp_of hk (s.nx n1 r1) (fun ys h2 ρ2 H2 vs n2 r2 ps le w2 => ?_) (kx.nx n1) w
  have pr : p ∉ ρ := s.hr.fresh hp
  have e2 : H2 p = some (.dK []) := n2.fr p _ upd_same pr
  have pr2 : p ∉ ρ2 := fun z => by
    have q := n2.nw p z pr
    rw [upd_same] at q
    cases q
  have lv := ps.len
  refine ⟨e2, ks.zip vs, ?_, ?_, ?_⟩
  · rfl
  · rw [List.length_zip]
    omega
  · have r3 := r2.allocD (u := .dK (mergeK [] (ks.zip vs))) (o := .dic (dputs [] (ks.zip ys))) pr2 e2 fun st => .inl ⟨_, upd_same, d1_merge (acc := []) (ws := []) (RepD1.stay st _ _ (zip_rd ps)) rfl⟩
    have n3 : Nx ρ H (ρ2 ++ [p]) (upd H2 p (.dK (mergeK [] (ks.zip vs)))) := by
      obtain ⟨t, et⟩ := n2.pre
      refine ⟨⟨t ++ [p], by rw [et, List.append_assoc]⟩, fun a o q z => ?_, fun a q z => ?_⟩
      · have ap : a ≠ p := ne_of_none q hp
        rw [upd_ne ap]
        exact n2.fr a o ((upd_ne ap).trans q) z
      · rcases List.mem_append.mp q with q | q
        · have ap : a ≠ p := fun y => pr2 (y ▸ q)
          have := n2.nw a q z
          rw [upd_ne ap] at this
          exact this
        · rw [List.mem_singleton.mp q]; exact hp
    exact kq (.ref h2.length) _ _ _ _ n3 r3 ⟨p, by rw [← r2.len]; simp, rfl⟩ w2

/-! ### calls of defs -/
/-- a promise, as the hand layer has it -/
def lift (K : PySem.W.Frag) (mg : Str → Option Value) (S : Spec) : Sp := fun vs H Q E' => ∃ (ρ : List Addr) (h : Hep) (xs : List PV) (F : KQ) (E : KX), HR K mg ρ h H ∧ Reps K ρ H xs vs ∧
  (∀ (r : PV) (h' : Hep) (ρ' : List Addr) (H' : Hp) (v : V), Nx ρ H ρ' H' → HR K mg ρ' h' H' → Rep K ρ' H' r v → F r h' → Q v H') ∧
  (∀ (x : XV) (h' : Hep) (ρ' : List Addr) (H' : Hp) (cls : Value) (d : Option Addr), Nx ρ H ρ' H' → HR K mg ρ' h' H' → XR K mg ρ' H' x cls d → E x h' → E' cls d H') ∧ S xs h F E
/-- a def that may be called -/
def FnReady (X : Cx) (x : Str) (S : Spec) : Prop := ∃ (f : Addr) (fd : FuncData) (ps : List Str) (j : Nat) (sp : Sp) (ds : List Value) (dvs : List V), X.mg x = some (.ref f) ∧ PySem.W.keepIn X.K (.ref f) = true ∧
  FnOk X.prog X.w X.K X.mg X.base (L2.CX X.prog X.w) j f fd ps sp ∧ Room j X.A ∧ Binds X.K fd ps ds ∧ Vals dvs ds ∧ ∀ vs H Q E, lift X.K X.mg S vs H Q E → sp (vs ++ dvs) H Q E
theorem ze_call {nm : Str} {S : Spec} {i : Nat} (fr : FnReady X nm S) (hG : Γ[i]? = some S) (tk : Takes X W) (hg : Gl X nm) (hdb : (nm == ("__debug__" : Str)) = false) (ha : PA X es (LA X W (wEs Γ xs)))
    (hx : es = [] → xs = []) (hs : ∀ a ∈ es, ∀ r, starEach (a :: r) X.env = (false, eval a X.env) :: starEach r X.env) : PE X (.Call (.Name nm p) es [] pos) (LE X W (wE Γ (.call i xs))) := by
  obtain ⟨f, fd, ps, j, sp, ds, dvs, hm, hk, F, hr, hb, hd, imp⟩ := fr
  have main : ∀ (σ : L2.St) (H : Hp) (Q : VK), LE X W (wE Γ (.call i xs)) σ H Q → LA X W (wEs Γ xs) σ H (fun vs H1 => sp (vs ++ dvs) H1 Q (fun cls d H => W cls d σ H)) := by
    intro σ H Q ⟨ρ, σz, h, F, E, s, kq, kx, w⟩
    unfold wE at w
    refine ⟨ρ, σz, h, _, E, s, fun ys h1 ρ1 H1 vs n1 r1 ps w1 => imp _ _ _ _ ?_, kx, w⟩
    rw [hG] at w1
    exact ⟨ρ1, h1, ys, F, E, r1, ps, kq.nx n1, kx.nx n1, w1⟩
  refine ⟨fun pins s σ H Q I q => ?_⟩
  have q := main σ H Q q
  cases es with
  | nil =>
    refine wpAny_Call_Name_kw (ld_glob I hg hm ?_ hdb)
    -- the arguments: none
    obtain rfl := hx rfl
    have q : sp ([] ++ dvs) H Q (fun cls d H => W cls d σ H) := by
      obtain ⟨ρ, σz, h, F, E, s, kq, kx, w⟩ := q
      unfold wEs at w
      exact kq [] h ρ H [] Nx.refl s.hr rfl w
    exact PySem.W.callWith_K0 I.kIn hk (run_fnSD (us := []) (E := fun σ cls d H => W cls d σ H) F hr hb hd (passAt tk σ) I .nil q)
  | cons e es =>
    refine wpAny_Call_Name_kw (ld_glob I hg hm ?_ hdb)
    refine PySem.W.callWith_K (h₀ := X.base) I.ok.mod.kin hk (thn (ha.run pos pins s σ H _ I q) fun us s1 ⟨vs, H1, I1, r, q⟩ => ⟨I1.kIn, ?_⟩) (hs e List.mem_cons_self es) (star_plain fun b hb => hs b (List.mem_cons_of_mem _ hb))
    exact run_fnSD (E := fun σ cls d H => W cls d σ H) F hr hb hd (passAt tk σ) I1 r q

/-! ### instances -/
theorem getO_some {h : Hep} {r : Nat} {F : Str → List (Str × PV) → Prop} (w : getO h r F) : ∃ c fs, h[r]? = some (.ins c fs) ∧ F c fs := by
  unfold getO at w
  split at w
  · rename_i c fs e
    exact ⟨c, fs, e, w⟩
  · exact False.elim w
theorem repF_get {K : PySem.W.Frag} {ρ : List Addr} {H : Hp} {f : Str} {v : PV} : ∀ {fs : List (Str × PV)} {gs : List (Str × V)}, RepF K ρ H fs gs → fs.lookup f = some v → ∃ u, gs.lookup f = some u ∧ Rep K ρ H v u
  | [], _, _, e => by cases e
  | (g, x) :: fs, _, ⟨u, gs, rfl, p, q⟩, e => by
    rw [List.lookup_cons] at e ⊢
    cases c : (f == g) with
    | true => rw [c] at e; cases e; exact ⟨u, rfl, p⟩
    | false => rw [c] at e; exact repF_get q e
theorem repF_none {K : PySem.W.Frag} {ρ : List Addr} {H : Hp} {f : Str} : ∀ {fs : List (Str × PV)} {gs : List (Str × V)}, RepF K ρ H fs gs → fs.lookup f = none → gs.lookup f = none
  | [], _, q, _ => by cases q; rfl
  | (g, x) :: fs, _, ⟨u, gs, rfl, p, q⟩, e => by
    rw [List.lookup_cons] at e ⊢
    cases c : (f == g) with
    | true => rw [c] at e; cases e
    | false => rw [c] at e; exact repF_none q e
theorem repF_len {K : PySem.W.Frag} {ρ : List Addr} {H : Hp} : ∀ {fs : List (Str × PV)} {gs : List (Str × V)}, RepF K ρ H fs gs → gs.length = fs.length
  | [], _, q => by cases q; rfl
  | (g, x) :: fs, _, ⟨u, gs, rfl, p, q⟩ => by rw [List.length_cons, List.length_cons, repF_len q]
theorem repF_put {K : PySem.W.Frag} {ρ : List Addr} {H : Hp} {f : Str} {y : PV} {z : V} (pz : Rep K ρ H y z) : ∀ {fs : List (Str × PV)} {gs : List (Str × V)}, RepF K ρ H fs gs → RepF K ρ H (putZ f y fs) (putF f z gs)
  | [], _, q => by cases q; exact ⟨z, [], rfl, pz, rfl⟩
  | (g, x) :: fs, _, ⟨u, gs, rfl, p, q⟩ => by
    unfold putZ putF
    by_cases c : g = f
    · rw [if_pos c, if_pos c]; exact ⟨z, gs, rfl, pz, q⟩
    · rw [if_neg c, if_neg c]; exact ⟨u, _, rfl, p, repF_put pz q⟩
def ClReady (X : Cx) (c : Str) (fs : List Str) : Prop := ∃ C : Addr, X.mg c = some (.ref C) ∧ Cls X.K C ∧ ∀ f ∈ fs, NoAttr X.K C f
def MeReady (X : Cx) (c m : Str) (S : Spec) : Prop := ∃ (C f : Addr) (fd : FuncData) (ps : List Str) (j : Nat) (sp : Sp) (ds : List Value) (dvs : List V), X.mg c = some (.ref C) ∧ Cls X.K C ∧ Meth X.K C m f ∧
  FnOk X.prog X.w X.K X.mg X.base (L2.CX X.prog X.w) j f fd ps sp ∧ Room j X.A ∧ Binds X.K fd ps ds ∧ Vals dvs ds ∧ ∀ vs H Q E, lift X.K X.mg S vs H Q E → sp (vs ++ dvs) H Q E
def NwReady (X : Cx) (c : Str) (S : Spec) : Prop := ∃ (C f : Addr) (fd : FuncData) (ps : List Str) (j : Nat) (sp : Sp) (ds : List Value) (dvs : List V), X.mg c = some (.ref C) ∧ Mk X.K C f ∧
  FnOk X.prog X.w X.K X.mg X.base (L2.CX X.prog X.w) j f fd ps sp ∧ Room (j + 1) X.A ∧ Binds X.K fd ps ds ∧ Vals dvs ds ∧ ∀ vs H Q E, lift X.K X.mg S vs H Q E → sp (vs ++ dvs) H Q E
/-- an own error class without own __init__ -/
def ErReady (X : Cx) (c : Str) : Prop := ∃ C : Addr, X.mg c = some (.ref C) ∧ PySem.W.nsIn X.K mainGlobals c = some (some (.ref C)) ∧ PySem.W.excIn X.K C PySem.HandSPX.veTail "ValueError.__new__" = true ∧ PySem.W.keepIn X.K (.ref C) = true ∧
  PySem.W.subIn X.K (.ref C) (.type "BaseException") = some true ∧ PySem.W.typeIn X.K (.ref C) = some (.type "type")
/-- what a name of an error class says -/
def XnIs (X : Cx) (c : Str) (cv : Value) : Prop := X.mg c = some cv ∨ (X.mg c = none ∧ bootBuiltins c = some cv ∧ c ≠ "__name__")
/-- error classes that may come, beside those that are asked for -/
def XsReady (X : Cx) (rs ts : List Str) : Prop := ∀ a ∈ rs, ∃ C : Addr, PySem.W.nsIn X.K mainGlobals a = some (some (.ref C)) ∧ L2.ExcC X.K C ∧
  ∀ c ∈ ts, ∃ cv : Value, XnIs X c cv ∧ PySem.W.exmOne X.K (.ref C) cv = some (subX a c) ∧ PySem.W.kitOne X.K (.ref C) cv = some (subX a c)
/-- an error class whose own __init__ keeps one thing -/
def EiReady (X : Cx) (c f : Str) : Prop := ∃ (C fI : Addr) (fd : FuncData) (ps : List Str) (k : Nat), X.mg c = some (.ref C) ∧ PySem.W.nsIn X.K mainGlobals c = some (some (.ref C)) ∧ OexC X.K C ∧ PySem.W.findIn X.K (.ref C) f = some none ∧
  PySem.W.findIn X.K (.ref C) "__init__" = some (some (.ref fI)) ∧ PySem.W.typeIn X.K (.ref fI) = some (.type "function") ∧ FnOk X.prog X.w X.K X.mg X.base (L2.CX X.prog X.w) k fI fd ps (Zh.spInit X.K f) ∧ Room (k + 1) X.A ∧ Binds X.K fd ps []
def XfReady (X : Cx) (c f : Str) : Prop := ∃ C : Addr, PySem.W.nsIn X.K mainGlobals c = some (some (.ref C)) ∧ L2.XfC X.K C ∧ PySem.W.findIn X.K (.ref C) f = some none
def Rdy (X : Cx) : Cn → Spec → Prop
  | .fn x, S => FnReady X x S
  | .me c m, S => MeReady X c m S
  | .mk c, S => NwReady X c S
  | .cl c fs, _ => ClReady X c fs
  | .er c, _ => ErReady X c
  | .xs rs ts, _ => XsReady X rs ts
  | .ei c f, _ => EiReady X c f
  | .xf c f, _ => XfReady X c f
  | .gd, _ => X.A.guards = some []
theorem zip_get {K : PySem.W.Frag} {ρ : List Addr} {H : Hp} {f : Str} {z : PV} : ∀ {ns : List Str} {vs : List PV} {gs : List V}, Reps K ρ H vs gs → (ns.zip vs).lookup f = some z → ∃ g, (ns.zip gs).lookup f = some g ∧ Rep K ρ H z g
  | [], _, _, _, e => by cases e
  | _ :: _, [], _, q, e => by cases e
  | n :: ns, x :: vs, _, ⟨v, r, e1, p, q⟩, e => by
    subst e1
    rw [List.zip_cons_cons, List.lookup_cons] at e ⊢
    cases c : (f == n) with
    | true => rw [c] at e; cases e; exact ⟨v, rfl, p⟩
    | false => rw [c] at e; exact zip_get q e
/-- repr(e) where nothing is being shown -/
theorem boot_repr : bootBuiltins "repr" = some (.builtin "repr") := by decide +kernel
theorem ze_rep (gd : X.A.guards = some []) (hu : X.A.units + 65 < cLine) (hg : Gl X "repr") (hm : X.mg "repr" = none) (ha : PE X a (LE X W (wE Γ x))) (hs : starEach [a] X.env = (false, eval a X.env) :: starEach [] X.env) : PE X (.Call (.Name "repr" p) [a] [] pos) (LE X W (wE Γ (.rep x))) := by
  refine pe_imp (pe_callB (Zh.cr_repr hu gd) hg hm boot_repr (pa_cons ha pa_nil hs) (by decide) (by decide) hs (by rfl)) fun σ H Q ⟨ρ, σz, h, F, E, s, kq, kx, w⟩ => ?_
  unfold wE at w
  refine ⟨ρ, σz, h, _, E, s, fun y h1 ρ1 H1 v n1 r1 p1 w1 => ?_, kx, w⟩
  obtain ⟨d, e, sp, sh, sz, w1⟩ := w1
  exact ⟨v, d, rfl, dat_dp r1 59 y v d p1 e, sh, by have := SeqAt.depth_of_shaped sp; omega, sz, (kq.nx n1).here r1 (x := .str d.shown) rfl w1⟩
/-- isinstance(e, c) of a kept exception -/
theorem ze_isx {c : Str} {rs ts : List Str} {p2 : Pos} (xr : XsReady X rs ts) (hr : rs ≠ []) (hc : c ∈ ts) (hg : Gl X "isinstance") (hm : X.mg "isinstance" = none) (hg2 : Gl X c) (hd : (c == ("__debug__" : Str)) = false) (ha : PE X a (LE X W (wE Γ x))) (hs : ∀ r, starEach (a :: r) X.env = (false, eval a X.env) :: starEach r X.env) :
    PE X (.Call (.Name "isinstance" p) [a, .Name c p2] [] pos) (LE X W (wE Γ (.isx x rs c))) := by
  obtain ⟨cv, hcv, v, rv, only⟩ : ∃ cv, XnIs X c cv ∧ ∃ v : V, RelV v cv ∧ ∀ u, RelV v u → u = cv := by
    cases rs with
    | nil => exact absurd rfl hr
    | cons a rs =>
      obtain ⟨C, _, _, q⟩ := xr a List.mem_cons_self
      obtain ⟨cv, q, _, k⟩ := q c hc
      exact ⟨cv, q, Zh.kit_val k⟩
  have uniq : ∀ cv', XnIs X c cv' → cv' = cv := fun cv' q => by
    rcases q with q | ⟨q1, q2, _⟩ <;> rcases hcv with z | ⟨z1, z2, _⟩
    · rw [q] at z; exact Option.some.inj z
    · rw [q] at z1; cases z1
    · rw [z] at q1; cases q1
    · rw [q2] at z2; exact Option.some.inj z2
  have hb : PE X (.Name c p2) (tC v) := by
    rcases hcv with z | ⟨z1, z2, z3⟩
    · exact pe_glob hg2 z rv hd
    · exact pe_bltn hg2 z1 z2 rv z3 hd
  have hpa : PA X [a, .Name c p2] (tCons (LE X W (wE Γ x)) (tCons (tC v) tNil)) := pa_cons ha (pa_cons hb pa_nil rfl) (hs _)
  refine pe_imp (pe_callB Zh.call_isX hg hm (by decide +kernel) hpa (by decide) (by decide) (hs _) rfl) fun σ H Q ⟨ρ, σz, h, F, E, s, kq, kx, w⟩ => ?_
  unfold wE at w
  refine ⟨ρ, σz, h, _, E, s, fun y h1 ρ1 H1 u n1 r1 p1 w1 => ?_, kx, w⟩
  cases y with
  | exc c' ns vs =>
    obtain ⟨hx, w2⟩ := (show c' ∈ rs ∧ F (.bl (subX c' c)) h1 from w1)
    obtain ⟨a', C', d, gs, rfl, hn', ek, ps, hl, alt⟩ := p1
    obtain ⟨C, hn, T, facts⟩ := xr c' hx
    rw [hn] at hn'
    cases hn'
    obtain ⟨cv', q, _, k⟩ := facts c hc
    rw [uniq _ q] at k
    refine ⟨a', _, d, v, cv, _, rfl, ek, ?_, T, only, k, (kq.nx n1).bl r1 w2⟩
    rcases alt with ⟨_, ed⟩ | ⟨dd, ed, exd⟩
    · exact .inl ed
    · exact .inr ⟨dd, _, ed, exd⟩
  | _ => exact False.elim w1
/-- names of classes, one behind the other -/
def mtN : List Str → List Expr → Bool
  | [], [] => true
  | c :: cs, .Name x _ :: es => x == c && mtN cs es
  | _, _ => false
def tVals : List V → TA
  | [] => tNil
  | v :: vs => tCons (tC v) (tVals vs)
theorem tVals_run {σ : L2.St} {H : Hp} : ∀ {vs : List V} {F : List V → Hp → Prop}, F vs H → tVals vs σ H F
  | [], _, h => h
  | v :: vs, F, h => tVals_run (vs := vs) (F := fun xs H2 => F (v :: xs) H2) h
/-- what the names of classes say -/
theorem cls_of {rs ts : List Str} {c : Str} (xr : XsReady X rs ts) (hr : rs ≠ []) (hc : c ∈ ts) (hg : Gl X c) (hd : (c == ("__debug__" : Str)) = false) : ∃ (v : V) (cv : Value), (∀ u, RelV v u → u = cv) ∧ (∀ p, PE X (.Name c p) (tC v)) ∧
    ∀ a ∈ rs, ∀ C : Addr, PySem.W.nsIn X.K mainGlobals a = some (some (.ref C)) → PySem.W.kitOne X.K (.ref C) cv = some (subX a c) := by
  obtain ⟨cv, hcv, v, rv, only⟩ : ∃ cv, XnIs X c cv ∧ ∃ v : V, RelV v cv ∧ ∀ u, RelV v u → u = cv := by
    cases rs with
    | nil => exact absurd rfl hr
    | cons a rs =>
      obtain ⟨C, _, _, q⟩ := xr a List.mem_cons_self
      obtain ⟨cv, q, _, k⟩ := q c hc
      exact ⟨cv, q, Zh.kit_val k⟩
  refine ⟨v, cv, only, fun p => ?_, fun a ha C hn => ?_⟩
  · rcases hcv with z | ⟨z1, z2, z3⟩
    · exact pe_glob hg z rv hd
    · exact pe_bltn hg z1 z2 rv z3 hd
  · obtain ⟨C', hn', _, q⟩ := xr a ha
    rw [hn] at hn'
    cases hn'
    obtain ⟨cv', q', _, k⟩ := q c hc
    have : cv' = cv := by
      rcases q' with q | ⟨q1, q2, _⟩ <;> rcases hcv with z | ⟨z1, z2, _⟩
      · rw [q] at z; exact Option.some.inj z
      · rw [q] at z1; cases z1
      · rw [z] at q1; cases q1
      · rw [q2] at z2; exact Option.some.inj z2
    rw [← this]; exact k
theorem names_of {rs ts : List Str} (xr : XsReady X rs ts) (hr : rs ≠ []) : ∀ {cs : List Str} {es : List Expr}, mtN cs es = true → (∀ c ∈ cs, c ∈ ts ∧ Gl X c ∧ (c == ("__debug__" : Str)) = false) → ∃ (vs : List V) (cvs : List Value), vs.length = cs.length ∧ (∀ us, Vals vs us → us = cvs) ∧ PA X es (tVals vs) ∧
    ∀ a ∈ rs, ∀ C : Addr, PySem.W.nsIn X.K mainGlobals a = some (some (.ref C)) → PySem.W.kitAny X.K (.ref C) cvs = some (cs.any (subX a))
  | [], [], _, _ => ⟨[], [], rfl, fun us r => by cases r; rfl, pa_nil, fun a _ C _ => rfl⟩
  | c :: cs, .Name x p :: es, h, k => by
    have h : (x == c && mtN cs es) = true := h
    rw [Bool.and_eq_true] at h
    obtain rfl : x = c := by simpa using h.1
    obtain ⟨k1, k2, k3⟩ := k x List.mem_cons_self
    obtain ⟨v, cv, only, pe, kit⟩ := cls_of xr hr k1 k2 k3
    obtain ⟨vs, cvs, ln, onlys, pa, kits⟩ := names_of xr hr h.2 fun c hc => k c (List.mem_cons_of_mem _ hc)
    refine ⟨v :: vs, cv :: cvs, by rw [List.length_cons, ln]; rfl, fun us r => ?_, pa_cons (pe p) pa rfl, fun a ha C hn => ?_⟩
    · cases r with
      | cons r1 r2 => rw [only _ r1, onlys _ r2]
    · refine kitAny_cons (kit a ha C hn) (fun hb => ?_) fun hb => ?_
      · rw [List.any_cons, hb]; exact kits a ha C hn
      · rw [List.any_cons, hb]; rfl
  | [], _ :: _, h, _ => by cases h
  | _ :: _, [], h, _ => by cases h
/-- isinstance(e, (c1, c2, ..)) of a kept exception -/
theorem ze_isxs {cs : List Str} {rs ts : List Str} {es : List Expr} {k : Nat} {p2 : Pos} (xr : XsReady X rs ts) (hr : rs ≠ []) (hn : mtN cs es = true) (hcs : ∀ c ∈ cs, c ∈ ts ∧ Gl X c ∧ (c == ("__debug__" : Str)) = false) (hl : cs.length ≤ 1000) (hg : Gl X "isinstance") (hm : X.mg "isinstance" = none) (ha : PE X a (LE X W (wE Γ x))) (hs : ∀ r, starEach (a :: r) X.env = (false, eval a X.env) :: starEach r X.env) :
    PE X (.Call (.Name "isinstance" p) [a, .Tuple es k p2] [] pos) (LE X W (wE Γ (.isxs x rs cs))) := by
  obtain ⟨vs, cvs, ln, only, pa, kits⟩ := names_of xr hr hn hcs
  have hpa : PA X [a, .Tuple es k p2] (tCons (LE X W (wE Γ x)) (tCons (tTup (tVals vs)) tNil)) := pa_cons ha (pa_cons (pe_tup pa) pa_nil rfl) (hs _)
  refine pe_imp (pe_callB Zh.call_isXs hg hm (by decide +kernel) hpa (by decide) (by decide) (hs _) rfl) fun σ H Q ⟨ρ, σz, h, F, E, s, kq, kx, w⟩ => ?_
  unfold wE at w
  refine ⟨ρ, σz, h, _, E, s, fun y h1 ρ1 H1 u n1 r1 p1 w1 => ?_, kx, w⟩
  cases y with
  | exc c' ns gs =>
    obtain ⟨hx, w2⟩ := (show c' ∈ rs ∧ F (.bl (cs.any (subX c'))) h1 from w1)
    obtain ⟨a', C', d, gs, rfl, hn', ek, ps, hl', alt⟩ := p1
    obtain ⟨C, hnC, T, _⟩ := xr c' hx
    rw [hnC] at hn'
    cases hn'
    have kk := kits c' hx _ hnC
    show tVals vs σ H1 _
    refine tVals_run ⟨by rw [ln, sizeLine_eq]; omega, fun q hq => ?_⟩
    obtain ⟨r2, n2⟩ := r1.tupl hq (.tup vs)
    have na : a' ≠ q := ne_of_none ek hq
    refine ⟨a', _, d, q, vs, cvs, _, rfl, by rw [upd_ne na]; exact ek, ?_, T, upd_same, only, kk, ((kq.nx n1).nx n2).bl r2 w2⟩
    rcases alt with ⟨_, ed⟩ | ⟨dd, ed, exd⟩
    · exact .inl ed
    · exact .inr ⟨dd, _, ed, by rw [upd_ne (ne_of_none exd hq)]; exact exd⟩
  | _ => exact False.elim w1
/-- e.f of a kept exception -/
theorem ze_fldx {c f : Str} (xr : XfReady X c f) (ha : PE X a (LE X W (wE Γ x))) (hb : attributeBase a f X.env (eval a X.env) = eval a X.env) : PE X (.Attribute a f pos) (LE X W (wE Γ (.fldx x c f))) := by
  obtain ⟨C, hn, T, hno⟩ := xr
  refine ⟨fun pins s σ H Q I q => ?_⟩
  obtain ⟨ρ, σz, h, F, E, sr, kq, kx, w⟩ := q
  unfold wE at w
  refine L2.attr_of hb (thn (ha.run pins s σ H (fun v H1 => ∃ (ρ1 : List Addr) (h1 : Hep) (y : PV), Nx ρ H ρ1 H1 ∧ HR X.K X.mg ρ1 h1 H1 ∧ Rep X.K ρ1 H1 y v ∧ fldxW y c f fun z => F z h1) I
    ⟨ρ, σz, h, _, E, sr, fun y h1 ρ1 H1 v n1 r1 p1 w1 => ⟨ρ1, h1, y, n1, r1, p1, w1⟩, kx, w⟩) fun u s1 ⟨v, H1, I1, rv, ρ1, h1, y, n1, r1, p1, w1⟩ => ?_)
  cases y with
  | exc c' ns vs =>
    obtain ⟨ec, z, el, w2⟩ := (show c' = c ∧ ∃ v, (ns.zip vs).lookup f = some v ∧ F v h1 from w1)
    subst ec
    obtain ⟨a', C', d, gs, ev, hn', ek, ps, hl, alt⟩ := p1
    subst ev
    obtain rfl : u = Value.ref a' := rv
    rw [hn] at hn'
    cases hn'
    obtain ⟨g, eg, pg⟩ := zip_get ps el
    rcases alt with ⟨en, _⟩ | ⟨dd, ed, exd⟩
    · rw [en] at el
      cases el
    · obtain ⟨⟨oe, ovs, ho, hz, hd⟩, _, _⟩ := I1.hok a' _ ek
      have hx : ObjOk X.prog X.w H1 s1.heap dd (.xd (ns.zip gs)) := I1.hok dd _ exd
      obtain ⟨mA, hns, hr⟩ := hx
      obtain ⟨od, hod, hlk⟩ := lookIn_ns hns
      obtain ⟨u', hu, ru⟩ := RelO.some_of (v := g) (o := mA f) (by rw [← eg]; exact hr f)
      have J : PySem.W.InstAt s1.heap a' oe C (some od) := ⟨ho, hz.1, by unfold PySem.W.notCls; rw [hd] <;> rfl, by rw [hz.2, ed]; exact hod⟩
      exact HandSPX.exc_get I1.kIn J T.ga T.gg T.exC (PySem.W.findObj_own T.hdC hno rfl (by rw [hlk, hu])) (handed_of ru) ⟨g, H1, I1.tok _, ru, (kq.nx n1).here r1 pg w2⟩
  | _ => exact False.elim w1
theorem ins_of {ρ : List Addr} {h : Hep} {H : Hp} {c : Str} {C : Addr} (r : HR X.K X.mg ρ h H) (hm : X.mg c = some (.ref C)) {i : Nat} {fs : List (Str × PV)} {a : Addr} (e : h[i]? = some (.ins c fs)) (e1 : ρ[i]? = some a) : ∃ dx gs, H a = some (.ins C dx gs) ∧ RepF X.K ρ H fs gs := by
  obtain ⟨C', dx, gs, m', k, q⟩ := r.ob i _ a e e1
  rw [hm] at m'
  cases m'
  exact ⟨dx, gs, k, q⟩
theorem ze_fld {c f : Str} {fl : List Str} (cr : ClReady X c fl) (hf : f ∈ fl) (ha : PE X e (LE X W (wE Γ x))) (hb : attributeBase e f X.env (eval e X.env) = eval e X.env) : PE X (.Attribute e f pos) (LE X W (wE Γ (.fld x c f))) := by
  refine pe_imp (pe_fld ha hb) fun σ H Q ⟨ρ, σz, h, F, E, s, kq, kx, w⟩ => ?_
  unfold wE at w
  refine ⟨ρ, σz, h, _, E, s, fun y h1 ρ1 H1 v n1 r1 p1 w1 => ?_, kx, w⟩
  obtain ⟨C, hm, cl, na⟩ := cr
  cases y with
  | ref i =>
    obtain ⟨_, fs, e, rfl, u, el, w1⟩ := getO_some (show getO h1 i fun c' fs => c' = c ∧ ∃ v, fs.lookup f = some v ∧ F v h1 from w1)
    obtain ⟨a, e1, rfl⟩ := p1
    obtain ⟨dx, gs, k, q⟩ := ins_of r1 hm e e1
    obtain ⟨z, ez, pz⟩ := repF_get q el
    exact ⟨a, C, dx, gs, z, rfl, k, cl, na f hf, ez, (kq.nx n1).here r1 pz w1⟩
  | _ => exact False.elim w1
theorem ze_mth {c m : Str} {S : Spec} {i : Nat} {o : Expr} {apos : Pos} {pl : Sem Bool} (fr : MeReady X c m S) (hG : Γ[i]? = some S) (tk : Takes X W) (ho : PE X o (LE X W (wE Γ y))) (ha : PA X es (LA X W (wEs Γ xs)))
    (hx : es = [] → xs = []) (hs : ∀ a ∈ es, ∀ r, starEach (a :: r) X.env = (false, eval a X.env) :: starEach r X.env)
    (ht : eval (.Call (.Attribute o m apos) es [] pos) X.env = (do
      let ov ← eval o X.env
      standAt apos.atName
      let (f, first) ← holding [ov] (getMethod ov m pl)
      callWith pos f first (backTo pos (starEach es X.env)) (backToKw pos (keywordEach [] X.env)))) : PE X (.Call (.Attribute o m apos) es [] pos) (LE X W (wE Γ (.mth i c m y xs))) := by
  obtain ⟨C, f, fd, ps, j, sp, ds, dvs, hm, cl, me, F, hr, hb, hd, imp⟩ := fr
  refine ⟨fun pins s σ H Q I q => ?_⟩
  obtain ⟨ρ, σz, h, Fz, E, sr, kq, kx, w⟩ := q
  unfold wE at w
  refine PySem.W.methodCall_KW (pl := pl) (thn (ho.run pins s σ H (fun v H1 => ∃ a dx gs, v = .ref a ∧ H1 a = some (.ins C dx gs) ∧ gs.lookup m = none ∧ LA X W (wEs Γ xs) σ H1 fun vs H2 => sp ((.ref a :: vs) ++ dvs) H2 Q (fun cls d H => W cls d σ H)) I
    ⟨ρ, σz, h, _, E, sr, fun x h1 ρ1 H1 v n1 r1 p1 w1 => ?_, kx, w⟩) fun u s1 ⟨v, H1, I1, rv, a, dx, gs, ev, ea, el, q1⟩ => ?_) ht
  · obtain ⟨w1, w2⟩ := w1
    cases x with
    | ref r =>
      obtain ⟨_, fs, e, rfl, ln⟩ := getO_some (show getO h1 r fun c' fs => c' = c ∧ fs.lookup m = none from w1)
      obtain ⟨a, e1, rfl⟩ := p1
      obtain ⟨dx, gs, k, q⟩ := ins_of r1 hm e e1
      refine ⟨a, dx, gs, rfl, k, repF_none q ln, ρ1, σz, h1, _, E, sr.nx n1 r1, fun ys h2 ρ2 H2 vs n2 r2 ps2 w3 => imp _ _ _ _ ?_, (kx.nx n1), w2⟩
      rw [hG] at w3
      exact ⟨ρ2, h2, .ref r :: ys, Fz, E, r2, ⟨_, _, rfl, ⟨a, n2.at e1, rfl⟩, ps2⟩, (kq.nx n1).nx n2, (kx.nx n1).nx n2, w3⟩
    | _ => exact False.elim w1
  · subst ev
    obtain rfl : u = Value.ref a := rv
    refine getmeth_ok I1 ea cl me el ?_
    cases es with
    | nil =>
      obtain rfl := hx rfl
      have q1 : sp (([V.ref a] ++ []) ++ dvs) H1 Q (fun cls d H => W cls d σ H) := by
        obtain ⟨ρ, σz, h, F, E, s, kq, kx, w⟩ := q1
        unfold wEs at w
        exact kq [] h ρ H1 [] Nx.refl s.hr rfl w
      exact PySem.W.callWith_K0 (first := [.ref a]) I1.kIn me.kp (run_fnSD (us := [.ref a]) (vs := [.ref a]) (E := fun σ cls d H => W cls d σ H) F hr hb hd (passAt tk σ) I1 (.cons rfl .nil) q1)
    | cons e es =>
      refine PySem.W.callWith_K (first := [.ref a]) (h₀ := X.base) I.ok.mod.kin me.kp (thn (ha.run pos pins s1 σ H1 _ I1 q1) fun us s2 ⟨vs, H2, I2, r, q2⟩ => ⟨I2.kIn, ?_⟩) (hs e List.mem_cons_self es) (star_plain fun b hb => hs b (List.mem_cons_of_mem _ hb))
      exact run_fnSD (us := .ref a :: us) (vs := .ref a :: vs) (E := fun σ cls d H => W cls d σ H) F hr hb hd (passAt tk σ) I2 (.cons rfl r) q2
/-- a class called, where what is raised is wished for at the caller's slots -/
theorem run_makeSD {CX : CXT} {k : Nat} {C f : Addr} {fd : FuncData} {ps : List Str} {sp : Sp} {dvs : List V} {ds : List Value} {E : L2.St → XK} {pins : List (Addr × Obj)} {σ : L2.St} {H : Hp} {s : Shared} {Q : VK} {us : List Value} {vs : List V} (M : Mk X.K C f) (F : FnOk X.prog X.w X.K X.mg X.base CX k f fd ps sp) (hr : Room (k + 1) X.A) (hb : Binds X.K fd ps ds) (hd : Vals dvs ds)
    (hx : PassesAt CX X σ (E σ)) (I : Inv X pins σ H s) (r : Vals vs us)
    (h : ∀ x dx, H x = none → H dx = none → dx ≠ x → sp (.ref x :: (vs ++ dvs)) (upd (upd H dx (.own x)) x (.ins C dx [])) (fun v H2 => v = .non ∧ Q (.ref x) H2) (E σ)) : wpAny (model X.prog X.w) X.A (call (.ref C) us) (EP X pins σ Q) X.xe s := by
  have fx := I.hok.fresh (Nat.le_succ s.heap.objs.size)
  have fd' := I.hok.fresh (Nat.le_refl s.heap.objs.size)
  have hq := h _ _ fx fd' (Nat.ne_of_lt (Nat.lt_succ_self _))
  have I2 := Inv.made (C := C) I
  have r2 : Vals (V.ref (s.heap.objs.size + 1) :: (vs ++ dvs)) (Value.ref (s.heap.objs.size + 1) :: (us ++ ds)) := .cons rfl (r.append hd)
  have hl : (Value.ref (s.heap.objs.size + 1) :: us ++ ds).length = ps.length := by rw [← F.len _ _ _ _ hq]; exact r2.length.symm
  have run := F.run _ X.stack _ _ ⟨Value.ref (s.heap.objs.size + 1) :: us, []⟩ (Value.ref (s.heap.objs.size + 1) :: (us ++ ds)) _ _ (E σ) (hr.make C us []) (I2.env0.make C us []) (hb _ (Value.ref (s.heap.objs.size + 1) :: us) I2.kIn hl) r2 hq
  refine wpAny_call (make_map (f := f) I.kIn M.makes M.init (beq_iff_eq.mp M.fn) (codeAny_mono run fun r s' hq' => ?_))
  match r, hq' with
  | .error e, hq' => exact hx pins _ _ e s' I2 hq'
  | .ok (.ret u), hq' =>
    obtain ⟨v, H', I3, rv, ev, q3⟩ := I2.after hq'
    subst ev
    exact ⟨rv, ⟨V.ref (s.heap.objs.size + 1), H', I3, rfl, q3⟩⟩
  | .ok .next, hq' => exact False.elim hq'
  | .ok .brk, hq' => exact False.elim hq'
  | .ok .cont, hq' => exact False.elim hq'
theorem ze_new {c : Str} {S : Spec} {i : Nat} (fr : NwReady X c S) (hG : Γ[i]? = some S) (tk : Takes X W) (hg : Gl X c) (hdb : (c == ("__debug__" : Str)) = false) (ha : PA X es (LA X W (wEs Γ xs)))
    (hx : es = [] → xs = []) (hs : ∀ a ∈ es, ∀ r, starEach (a :: r) X.env = (false, eval a X.env) :: starEach r X.env) : PE X (.Call (.Name c p) es [] pos) (LE X W (wE Γ (.new i c xs))) := by
  obtain ⟨C, f, fd, ps, j, sp, ds, dvs, hm, M, F, hr, hb, hd, imp⟩ := fr
  have main : ∀ (σ : L2.St) (H : Hp) (Q : VK), LE X W (wE Γ (.new i c xs)) σ H Q → LA X W (wEs Γ xs) σ H (fun vs H1 => ∀ x dx, H1 x = none → H1 dx = none → dx ≠ x → sp (.ref x :: (vs ++ dvs)) (upd (upd H1 dx (.own x)) x (.ins C dx [])) (fun v H2 => v = .non ∧ Q (.ref x) H2) (fun cls d H => W cls d σ H)) := by
    intro σ H Q ⟨ρ, σz, h, Fz, E, s, kq, kx, w⟩
    unfold wE at w
    refine ⟨ρ, σz, h, _, E, s, fun ys h1 ρ1 H1 vs n1 r1 ps w1 x dx fx fdx ne => ?_, kx, w⟩
    rw [hG] at w1
    obtain ⟨r2, n2⟩ := r1.tupl fdx (.own x)
    have fx2 : (upd H1 dx (.own x)) x = none := by rw [upd_ne (Ne.symm ne)]; exact fx
    obtain ⟨r3, n3⟩ := r2.alloc fx2 (u := .ins C dx []) (o := .ins c []) ⟨C, dx, [], hm, upd_same, rfl⟩
    have ex : (ρ1 ++ [x])[h1.length]? = some x := by rw [← r1.len]; simp
    have nn := n2.trans n3
    have ps3 := ps.nx r1 nn
    show sp ((.ref x :: vs) ++ dvs) _ _ _
    refine imp _ _ _ _ ⟨ρ1 ++ [x], h1 ++ [.ins c []], .ref h1.length :: ys, _, E, r3, ⟨_, _, rfl, ⟨x, ex, rfl⟩, ps3⟩, fun y h' ρ' H' v n r' p' q => ?_, (kx.nx n1).nx nn, w1⟩
    obtain ⟨rfl, q⟩ := q
    exact ⟨p', kq (.ref h1.length) h' ρ' H' _ ((n1.trans nn).trans n) r' ⟨x, n.at ex, rfl⟩ q⟩
  refine ⟨fun pins s σ H Q I q => ?_⟩
  have q := main σ H Q q
  cases es with
  | nil =>
    refine wpAny_Call_Name_kw (ld_glob I hg hm ?_ hdb)
    obtain rfl := hx rfl
    have q := (show ∀ x dx, H x = none → H dx = none → dx ≠ x → sp (.ref x :: ([] ++ dvs)) (upd (upd H dx (.own x)) x (.ins C dx [])) (fun v H2 => v = .non ∧ Q (.ref x) H2) (fun cls d H => W cls d σ H) from by
      obtain ⟨ρ, σz, h, F, E, s, kq, kx, w⟩ := q
      unfold wEs at w
      exact kq [] h ρ H [] Nx.refl s.hr rfl w)
    exact PySem.W.callWith_K0 I.kIn M.kp (run_makeSD (us := []) (E := fun σ cls d H => W cls d σ H) M F hr hb hd (passAt tk σ) I .nil q)
  | cons e es =>
    refine wpAny_Call_Name_kw (ld_glob I hg hm ?_ hdb)
    refine PySem.W.callWith_K (h₀ := X.base) I.ok.mod.kin M.kp (thn (ha.run pos pins s σ H _ I q) fun us s1 ⟨vs, H1, I1, r, q⟩ => ⟨I1.kIn, ?_⟩) (hs e List.mem_cons_self es) (star_plain fun b hb => hs b (List.mem_cons_of_mem _ hb))
    exact run_makeSD (E := fun σ cls d H => W cls d σ H) M F hr hb hd (passAt tk σ) I1 r q
end
end Z

/-! ZsH: targets, what is walked, comprehensions. -/
namespace Z
open PySem PyProof.Rows L2

/-! ### targets -/
mutual
def slotsT : Tg → List Nat
  | .nm i => [i]
  | .tp ts => slotsTs ts
def slotsTs : List Tg → List Nat
  | [] => []
  | t :: ts => slotsT t ++ slotsTs ts
end
section
variable {X : Cx} {W : WX} {e a b c : Expr} {es : List Expr} {pos p : Pos} {Γ : List Spec} {x y : Ex} {xs : List Ex}
/-- the same but at some slots -/
def But (vs : List Nat) (σ σ' : L2.St) : Prop := σ'.length = σ.length ∧ ∀ j, j ∉ vs → σ'[j]? = σ[j]?
theorem But.refl {vs : List Nat} {σ : L2.St} : But vs σ σ := ⟨rfl, fun _ _ => rfl⟩
theorem But.trans {vs ws : List Nat} {σ σ1 σ2 : L2.St} (h : But vs σ σ1) (k : But ws σ1 σ2) : But (vs ++ ws) σ σ2 :=
  ⟨k.1.trans h.1, fun j hj => (k.2 j fun z => hj (List.mem_append_right _ z)).trans (h.2 j fun z => hj (List.mem_append_left _ z))⟩
def LG (X : Cx) (t : Tg) : TG := fun v σ H Q => ∃ (ρ : List Addr) (σz : Env) (h : Hep) (x : PV), SR X ρ σz h σ H ∧ Rep X.K ρ H x v ∧ ∃ σz', tgt t x σz = some σz' ∧ ∀ σ', SR X ρ σz' h σ' H → But (slotsT t) σ σ' → Q σ' H
def LGs (X : Cx) (ts : List Tg) : TGs := fun vs σ H Q => ∃ (ρ : List Addr) (σz : Env) (h : Hep) (xs : List PV), SR X ρ σz h σ H ∧ Reps X.K ρ H xs vs ∧ ∃ σz', tgts ts xs σz = some σz' ∧ ∀ σ', SR X ρ σz' h σ' H → But (slotsTs ts) σ σ' → Q σ' H
theorem pg_imp {t t' : TG} (h : PG X e t) (k : ∀ v σ H Q, t' v σ H Q → t v σ H Q) : PG X e t' := ⟨fun pins s σ H v u Q I r q => h.run pins s σ H v u Q I r (k _ _ _ _ q)⟩
theorem pgs_imp {t t' : TGs} (h : PGs X es t) (k : ∀ v σ H Q, t' v σ H Q → t v σ H Q) : PGs X es t' := ⟨fun pins s σ H v u Q I r q => h.run pins s σ H v u Q I r (k _ _ _ _ q)⟩
theorem zg_name {i : Nat} {nm : Str} (hN : X.N.Nodup) (hi : X.N[i]? = some nm) (hx : Loc X.env.scope nm) (hf : X.fn nm = true ∨ X.env.scope.names.lookup nm = some .local) : PG X (.Name nm p) (LG X (.nm i)) := by
  refine pg_imp (pg_name hN hi hx hf) fun v σ H Q ⟨ρ, σz, h, y, s, py, σz', e, k⟩ => ?_
  unfold tgt at e
  cases e
  refine k _ (s.set i py) ⟨by rw [List.length_set], fun j hj => ?_⟩
  have hj : j ∉ [i] := hj
  exact List.getElem?_set_ne (fun z => hj (by simp [z]))
theorem zgs_nil : PGs X [] (LGs X []) := pgs_imp pgs_nil fun vs σ H Q ⟨ρ, σz, h, ys, s, ps, σz', e, k⟩ => by
  cases ys with
  | nil =>
    cases ps
    unfold tgts at e
    cases e
    exact ⟨rfl, k σ s .refl⟩
  | cons _ _ => unfold tgts at e; cases e
theorem zgs_cons {t : Tg} {ts : List Tg} (h1 : PG X e (LG X t)) (h2 : PGs X es (LGs X ts)) (hs : (assignEach (e :: es) X.env).map (·.2) = assign e X.env :: (assignEach es X.env).map (·.2)) : PGs X (e :: es) (LGs X (t :: ts)) := by
  refine pgs_imp (pgs_cons h1 h2 hs) fun vs σ H Q ⟨ρ, σz, h, ys, s, ps, σz', e, k⟩ => ?_
  cases ys with
  | nil => unfold tgts at e; cases e
  | cons y ys =>
    obtain ⟨v, r, rfl, py, ps⟩ := ps
    unfold tgts at e
    split at e
    · rename_i σz1 e1
      refine ⟨v, r, rfl, ρ, σz, h, y, s, py, σz1, e1, fun σ1 s1 b1 => ?_⟩
      exact ⟨ρ, σz1, h, ys, s1, ps, σz', e, fun σ2 s2 b2 => k σ2 s2 (b1.trans b2)⟩
    · cases e
theorem zg_tup {ts : List Tg} {k : Nat} (hc : X.calm = true) (h : PGs X es (LGs X ts)) (hn : (assignEach es X.env).length = ts.length) (hst : (assignEach es X.env).findIdx? (·.1) = none) : PG X (.Tuple es k pos) (LG X (.tp ts)) := by
  refine pg_imp (pg_tup hc h hn hst) fun v σ H Q ⟨ρ, σz, h, y, s, py, σz', e, k⟩ => ?_
  have lens : ∀ (ts : List Tg) (ys : List PV) (σz σz' : Env), tgts ts ys σz = some σz' → ys.length = ts.length := by
    intro ts
    induction ts with
    | nil =>
      intro ys σz σz' e
      cases ys with
      | nil => rfl
      | cons _ _ => unfold tgts at e; cases e
    | cons t ts ih =>
      intro ys σz σz' e
      cases ys with
      | nil => unfold tgts at e; cases e
      | cons y ys =>
        unfold tgts at e
        split at e
        · rw [List.length_cons, List.length_cons, ih ys _ _ e]
        · cases e
  cases y with
  | tup ys =>
    obtain ⟨a, vs, rfl, t, ps⟩ := py
    have e' : tgts ts ys σz = some σz' := e
    exact ⟨a, vs, rfl, t.sq, by rw [← ps.len]; exact lens ts ys σz σz' e', ρ, σz, h, ys, s, ps, σz', e', k⟩
  | itp ys =>
    obtain ⟨a, vs, rfl, t, ps⟩ := py
    have e' : tgts ts ys σz = some σz' := e
    exact ⟨a, vs, rfl, t.sq, by rw [← ps.len]; exact lens ts ys σz σz' e', ρ, σz, h, ys, s, ps, σz', e', k⟩
  | _ => cases e

/-! ### what is walked -/
/-- how a walk tells its items, from (ρ, H) on -/
def ItOk (X : Cx) (ρ : List Addr) (H : Hp) (J : It) (items : List PV) (g : Grd) : Prop :=
  ∀ (ρ' : List Addr) (h' : Hep) (H' : Hp), Nx ρ H ρ' H' → HR X.K X.mg ρ' h' H' → grdOk h' g → ∀ i : Nat, (items.length = i → J.stop i H') ∧
    ∀ it, items[i]? = some it → J.go i H' ∧ ∀ (v : V) (H2 : Hp), J.yld i H' v H2 → Nx ρ' H' ρ' H2 ∧ HR X.K X.mg ρ' h' H2 ∧ Rep X.K ρ' H2 it v
def LI (X : Cx) (W : WX) (w : Env → Hep → (List PV → Grd → Hep → Prop) → KX → Prop) : TI := fun σ H R => ∃ (ρ : List Addr) (σz : Env) (h : Hep) (F : List PV → Grd → Hep → Prop) (E : KX), SR X ρ σz h σ H ∧
  (∀ (items : List PV) (g : Grd) (h1 : Hep) (ρ1 : List Addr) (H1 : Hp) (J : It), Nx ρ H ρ1 H1 → HR X.K X.mg ρ1 h1 H1 → ItOk X ρ1 H1 J items g → F items g h1 → R J H1) ∧ KXok X W σ ρ H E ∧ w σz h F E
theorem pi_imp {tg it : Expr} {t t' : TI} (h : PI X tg it t) (k : ∀ σ H R, t' σ H R → t σ H R) : PI X tg it t' := ⟨fun pins s σ H R I q => h.run pins s σ H R I (k _ _ _ q)⟩
theorem HR.same (r : ∀ {ρ h H}, HR X.K X.mg ρ h H → True) : True := trivial
theorem itok_tup {ρ : List Addr} {H : Hp} {a : Addr} {ys : List PV} {vs : List V} {h : Hep} (r : HR X.K X.mg ρ h H) (t : TL X.K H a vs) (ps : Reps X.K ρ H ys vs) : ItOk X ρ H (Itt X.K a) ys [] := by
  intro ρ' h' H' n r' _ i
  have t' := t.nx r n
  have ps' := ps.nx r n
  refine ⟨fun hi => ⟨vs, t'.sq, by rw [← ps'.len]; exact Nat.le_of_eq hi⟩, fun it e => ?_⟩
  obtain ⟨v, ev, pv⟩ := ps'.get e
  refine ⟨⟨vs, v, t'.sq, ev⟩, fun u H2 y => ?_⟩
  obtain ⟨rfl, y⟩ := y
  have e2 := y vs t'.sq
  rw [ev] at e2
  cases e2
  exact ⟨.refl, r', pv⟩
theorem itok_itp {ρ : List Addr} {H : Hp} {a : Addr} {ys : List PV} {vs : List V} {h : Hep} (r : HR X.K X.mg ρ h H) (t : Zh.Whole X.K H a vs) (ps : Reps X.K ρ H ys vs) : ItOk X ρ H (Itt X.K a) ys [] := by
  intro ρ' h' H' n r' _ i
  have t' := wh_nx t r n
  have ps' := ps.nx r n
  refine ⟨fun hi => ⟨vs, t'.sq, by rw [← ps'.len]; exact Nat.le_of_eq hi⟩, fun it e => ?_⟩
  obtain ⟨v, ev, pv⟩ := ps'.get e
  refine ⟨⟨vs, v, t'.sq, ev⟩, fun u H2 y => ?_⟩
  obtain ⟨rfl, y⟩ := y
  have e2 := y vs t'.sq
  rw [ev] at e2
  cases e2
  exact ⟨.refl, r', pv⟩
theorem itok_ils {ρ : List Addr} {H : Hp} {a : Addr} {ys : List PV} {vs : List V} {h : Hep} (r : HR X.K X.mg ρ h H) (t : IL X.K H a vs) (ps : Reps X.K ρ H ys vs) : ItOk X ρ H (Itl X.K a) ys [] := by
  intro ρ' h' H' n r' _ i
  have t' := t.nx r n
  have ps' := ps.nx r n
  refine ⟨fun hi => ⟨vs, t'.sq, by rw [← ps'.len]; exact Nat.le_of_eq hi⟩, fun it e => ?_⟩
  obtain ⟨v, ev, pv⟩ := ps'.get e
  refine ⟨⟨vs, v, t'.sq, ev⟩, fun u H2 y => ?_⟩
  obtain ⟨rfl, y⟩ := y
  have e2 := y vs t'.sq
  rw [ev] at e2
  cases e2
  exact ⟨.refl, r', pv⟩
theorem itok_lst {ρ : List Addr} {H : Hp} {a : Addr} {i : Nat} {ys : List PV} (e1 : ρ[i]? = some a) : ItOk X ρ H (Itl X.K a) ys [(i, .lst ys)] := by
  intro ρ' h' H' n r' g j
  obtain ⟨b, vs, e2, k, ps⟩ := r'.lst g.1
  have e1 := n.at e1
  rw [e1] at e2; cases e2
  refine ⟨fun hi => ⟨vs, SqL.of k, by rw [← ps.len]; exact Nat.le_of_eq hi⟩, fun it e => ?_⟩
  obtain ⟨v, ev, pv⟩ := ps.get e
  refine ⟨⟨vs, v, SqL.of k, ev⟩, fun u H2 y => ?_⟩
  obtain ⟨rfl, y⟩ := y
  have e2 := y vs (SqL.of k)
  rw [ev] at e2
  cases e2
  exact ⟨.refl, r', pv⟩
theorem signs_get {z : Str} {i : Nat} {it : PV} (e : (signsOf z)[i]? = some it) : ∃ c, z.cps[i]? = some c ∧ it = .str ⟨#[c]⟩ := by
  unfold signsOf at e
  rw [List.getElem?_map, Array.getElem?_toList] at e
  cases g : z.cps[i]? with
  | none => rw [g] at e; cases e
  | some c => rw [g] at e; cases e; exact ⟨c, rfl, rfl⟩
theorem itok_str {ρ : List Addr} {H : Hp} {z : Str} : ItOk X ρ H (Its z) (signsOf z) [] := by
  intro ρ' h' H' n r' _ i
  refine ⟨fun hi => ?_, fun it e => ?_⟩
  · have : z.cps.size ≤ i := by have hi := Nat.le_of_eq hi; unfold signsOf at hi; simpa using hi
    exact this
  · obtain ⟨c, g, rfl⟩ := signs_get e
    refine ⟨(Array.getElem?_eq_some_iff.mp g).1, fun v H2 y => ?_⟩
    obtain ⟨rfl, c', g', rfl⟩ := y
    rw [g] at g'
    cases g'
    exact ⟨.refl, r', rfl⟩
/-- any list, any tuple, any text -/
theorem zi_walk {tg : Expr} (he : PE X e (LE X W (wE Γ x))) : PI X tg e (LI X W (wI Γ (.wlk x))) := by
  refine ⟨fun pins s σ H R I ⟨ρ, σz, h, F, E, sr, kq, kx, w⟩ => ?_⟩
  have w : wE Γ x σz h (fun x h1 => walkW h1 x fun xs g => F xs g h1) E := w
  refine thn (he.run pins s σ H (fun v H1 => (∃ z, v = .str z ∧ R (Its z) H1) ∨ ∃ a, v = .ref a ∧ ((∃ vs, SqL X.K H1 a vs ∧ R (Itl X.K a) H1) ∨ ∃ vs, SqT X.K H1 a vs ∧ R (Itt X.K a) H1)) I ⟨ρ, σz, h, _, E, sr, fun y h1 ρ1 H1 v n1 r1 p1 w1 => ?_, kx, w⟩) fun u s1 ⟨v, H1, I1, rv, q0⟩ => ?_
  · cases y with
    | str z =>
      obtain rfl := p1
      exact .inl ⟨z, rfl, kq (signsOf z) [] h1 ρ1 H1 _ n1 r1 itok_str w1⟩
    | tup ys =>
      obtain ⟨a, vs, rfl, t, ps⟩ := p1
      exact .inr ⟨a, rfl, .inr ⟨vs, t.sq, kq ys [] h1 ρ1 H1 _ n1 r1 (itok_tup r1 t ps) w1⟩⟩
    | itp ys =>
      obtain ⟨a, vs, rfl, t, ps⟩ := p1
      exact .inr ⟨a, rfl, .inr ⟨vs, t.sq, kq ys [] h1 ρ1 H1 _ n1 r1 (itok_itp r1 t ps) w1⟩⟩
    | ils ys =>
      obtain ⟨a, vs, rfl, t, ps⟩ := p1
      exact .inr ⟨a, rfl, .inl ⟨vs, t.sq, kq ys [] h1 ρ1 H1 _ n1 r1 (itok_ils r1 t ps) w1⟩⟩
    | ref i =>
      obtain ⟨a, vs, ys, rfl, e1, k, e, ps, w1⟩ := listed r1 p1 (show getL h1 i fun xs => F xs [(i, .lst xs)] h1 from w1)
      exact .inr ⟨a, rfl, .inl ⟨vs, SqL.of k, kq ys [(i, .lst ys)] h1 ρ1 H1 _ n1 r1 (itok_lst e1) w1⟩⟩
    | _ => exact False.elim w1
  · rcases q0 with ⟨z, rfl, q⟩ | ⟨a, ev, q⟩
    · obtain ⟨t, rfl⟩ := rv
      cases ha : z.cps.all (· < 128)
      · exact wpAny_pyIter_wide ha (pi_one (tk := s1.toks) I1 _ (turn_str s1.heap.objs.size z t "str_iterator" (.inr rfl)) ⟨_, Heap.get?_push_size _ rfl, rfl, rfl⟩ q)
      · exact wpAny_pyIter_ascii ha (pi_one (tk := s1.toks) I1 _ (turn_str s1.heap.objs.size z t "str_ascii_iterator" (.inl rfl)) ⟨_, Heap.get?_push_size _ rfl, rfl, rfl⟩ q)
    subst ev
    rcases q with ⟨vs, hq, q⟩ | ⟨vs, hq, q⟩
    · have hx : PE X e (fun σ' H' Q => σ' = σ ∧ H' = H1 ∧ False) := ⟨fun _ _ _ _ _ _ z => z.2.2.elim⟩
      cases rv
      obtain ⟨its, rvs, pl, hz⟩ := I1.list hq
      refine wpAny_pyIter_list pl.isList ?_
      refine ⟨s1.heap.objs.size, [s1.heap.objs.size], _, _, H1, rfl, I1.kept (t' := s1.toks) fun b o e => Heap.get?_push_of_some _ e, turn_list a _, ⟨_, Heap.get?_push_size _ rfl, rfl, rfl⟩, fun b hb => ?_, q⟩
      rw [show b = s1.heap.objs.size by simpa using hb]
      exact I1.fpOk (Nat.le_refl _) (I1.hok.fresh (Nat.le_refl _))
    · cases rv
      obtain ⟨its, rvs, pl, hz⟩ := I1.tuple hq
      refine wpAny_pyIter_tuple (show s1.heap.IsTuple a its.toArray from pl) ?_
      refine ⟨s1.heap.objs.size, [s1.heap.objs.size], _, _, H1, rfl, I1.kept (t' := s1.toks) fun b o e => Heap.get?_push_of_some _ e, turn_tuple a _, ⟨_, Heap.get?_push_size _ rfl, rfl, rfl⟩, fun b hb => ?_, q⟩
      rw [show b = s1.heap.objs.size by simpa using hb]
      exact I1.fpOk (Nat.le_refl _) (I1.hok.fresh (Nat.le_refl _))
/-- ranges -/
theorem itok_rvs {ρ : List Addr} {H : Hp} {a : Addr} {i : Nat} {ys : List PV} {n : Nat} (e1 : ρ[i]? = some a) (hn : ys.length = n) : ItOk X ρ H (Itv X.K a n) ys.reverse [(i, .lst ys)] := by
  intro ρ' h' H' nx r' g j
  obtain ⟨b, vs, e2, k, ps⟩ := r'.lst g.1
  have e3 : ρ'[i]? = some a := by
    obtain ⟨t, rfl⟩ := nx.pre
    rw [List.getElem?_append_left (List.getElem?_eq_some_iff.mp e1).1]; exact e1
  rw [e3] at e2; cases e2
  have sq : SqL X.K H' a vs := SqL.of k
  have lv : vs.length = n := by rw [← ps.len, hn]
  refine ⟨fun hi => by rw [List.length_reverse] at hi; show n ≤ j; omega, fun it e => ?_⟩
  have jl : j < ys.length := by have := (List.getElem?_eq_some_iff.mp e).1; rwa [List.length_reverse] at this
  rw [List.getElem?_reverse jl] at e
  obtain ⟨v, ev, pv⟩ := ps.get e
  rw [hn] at ev jl
  refine ⟨⟨jl, vs, v, sq, ev⟩, fun u H2 y => ?_⟩
  obtain ⟨rfl, y⟩ := y
  have e4 := y vs sq
  rw [ev] at e4
  cases e4
  exact ⟨.refl, r', pv⟩
theorem zi_rvs {tg : Expr} (hg : Gl X "reversed") (hm : X.mg "reversed" = none) (ha : PE X a (LE X W (wE Γ x))) (hs : starEach [a] X.env = [(false, eval a X.env)]) (hs2 : starEach [a] X.env = (false, eval a X.env) :: starEach [] X.env) : PI X tg (.Call (.Name "reversed" p) [a] [] pos) (LI X W (wI Γ (.rvs x))) := by
  refine pi_imp (pi_reversed hg hm (pa_cons ha pa_nil hs2) hs) fun σ H R ⟨ρ, σz, h, F, E, sr, kq, kx, w⟩ => ?_
  unfold wI at w
  refine ⟨ρ, σz, h, _, E, sr, fun y h1 ρ1 H1 v n1 r1 p1 w1 => ?_, kx, w⟩
  cases y with
  | ref i =>
    obtain ⟨xs, e, w1⟩ := getL_some (show getL h1 i _ from w1)
    obtain ⟨b, vs, e2, k, ps⟩ := r1.lst e
    obtain ⟨a', e1, rfl⟩ := p1
    rw [e1] at e2; cases e2
    exact ⟨_, vs, rfl, SqL.of k, kq _ _ h1 ρ1 H1 _ n1 r1 (itok_rvs e1 ps.len) w1⟩
  | _ => exact w1.elim
theorem itok_rng {ρ : List Addr} {H : Hp} {lo : Int} {n : Nat} : ItOk X ρ H (Itr lo n) (rngL lo n) [] := by
  intro ρ' h' H' nx r' _ i
  have hl : (rngL lo n).length = n := by unfold rngL; rw [List.length_map, List.length_range]
  refine ⟨fun hi => by rw [hl] at hi; exact Nat.le_of_eq hi, fun it e => ?_⟩
  have hi : i < n := by rw [← hl]; exact (List.getElem?_eq_some_iff.mp e).1
  refine ⟨hi, fun v H2 y => ?_⟩
  obtain ⟨rfl, rfl⟩ := y
  unfold rngL at e
  rw [List.getElem?_map, List.getElem?_range hi] at e
  cases e
  exact ⟨.refl, r', rfl⟩
theorem zi_rng1 {tg : Expr} (hg : Gl X "range") (hm : X.mg "range" = none) (ha : PE X a (LE X W (wE Γ x))) (hs : starEach [a] X.env = [(false, eval a X.env)]) : PI X tg (.Call (.Name "range" p) [a] [] pos) (LI X W (wI Γ (.rng1 x))) := by
  refine pi_imp (pi_range1 hg hm (pa_cons ha pa_nil hs) hs) fun σ H R ⟨ρ, σz, h, F, E, sr, kq, kx, w⟩ => ?_
  unfold wI at w
  refine ⟨ρ, σz, h, _, E, sr, fun y h1 ρ1 H1 v n1 r1 p1 w1 => ?_, kx, w⟩
  split at w1
  · rename_i j
    obtain rfl := p1
    obtain ⟨z1, z2, w1⟩ := w1
    exact ⟨j, rfl, z1, z2, kq _ _ _ _ _ _ n1 r1 itok_rng w1⟩
  · exact w1.elim
theorem zi_rng2 {tg : Expr} (hg : Gl X "range") (hm : X.mg "range" = none) (ha : PE X a (LE X W (wE Γ x))) (hb : PE X b (LE X W (wE Γ y))) (hs : starEach [a, b] X.env = (false, eval a X.env) :: starEach [b] X.env) (hs2 : starEach [b] X.env = [(false, eval b X.env)]) : PI X tg (.Call (.Name "range" p) [a, b] [] pos) (LI X W (wI Γ (.rng2 x y))) := by
  refine pi_imp (pi_range2 hg hm (pa_cons ha (pa_cons hb pa_nil hs2) hs) (hs.trans (by rw [hs2])) hs2) fun σ H R ⟨ρ, σz, h, F, E, sr, kq, kx, w⟩ => ?_
  unfold wI at w
  refine ⟨ρ, σz, h, _, E, sr, fun y h1 ρ1 H1 v n1 r1 p1 w1 => ?_, kx, w⟩
  refine ⟨ρ1, σz, h1, _, E, sr.nx n1 r1, fun z h2 ρ2 H2 u n2 r2 p2 w2 => ?_, kx.nx n1, w1⟩
  split at w2
  · rename_i i j
    obtain rfl := p1
    obtain rfl := p2
    obtain ⟨z1, z2, z3, z4, w2⟩ := w2
    exact ⟨i, j, rfl, ⟨z1, z2, z3, z4⟩, kq _ _ _ _ _ _ (n1.trans n2) r2 itok_rng w2⟩
  · exact w2.elim
theorem itok_rngC {ρ : List Addr} {H : Hp} {i c : Int} {n : Nat} : ItOk X ρ H (Itc i c n) (rngC i c n) [] := by
  intro ρ' h' H' n1 r' gg k
  have hl : (rngC i c n).length = n := by simp [rngC]
  refine ⟨fun hi => by show n ≤ k; omega, fun it e => ?_⟩
  have hk : k < n := by have := (List.getElem?_eq_some_iff.mp e).1; omega
  refine ⟨hk, fun u H2 q => ?_⟩
  obtain ⟨rfl, rfl⟩ := q
  unfold rngC at e
  rw [List.getElem?_map, List.getElem?_range hk] at e
  cases e
  exact ⟨.refl, r', rfl⟩
theorem zi_rng3 {tg : Expr} {z : Ex} (hg : Gl X "range") (hm : X.mg "range" = none) (ha : PE X a (LE X W (wE Γ x))) (hb : PE X b (LE X W (wE Γ y))) (hc : PE X c (LE X W (wE Γ z))) (hs : starEach [a, b, c] X.env = (false, eval a X.env) :: starEach [b, c] X.env) (hs2 : starEach [b, c] X.env = (false, eval b X.env) :: starEach [c] X.env) (hs3 : starEach [c] X.env = [(false, eval c X.env)]) : PI X tg (.Call (.Name "range" p) [a, b, c] [] pos) (LI X W (wI Γ (.rng3 x y z))) := by
  refine pi_imp (pi_range3 hg hm (pa_cons ha (pa_cons hb (pa_cons hc pa_nil hs3) hs2) hs) hs (by rw [hs2, hs3]; rfl)) fun σ H R ⟨ρ, σz, h, F, E, sr, kq, kx, w⟩ => ?_
  unfold wI at w
  refine ⟨ρ, σz, h, _, E, sr, fun y h1 ρ1 H1 v n1 r1 p1 w1 => ?_, kx, w⟩
  refine ⟨ρ1, σz, h1, _, E, sr.nx n1 r1, fun z h2 ρ2 H2 u n2 r2 p2 w2 => ?_, kx.nx n1, w1⟩
  refine ⟨ρ2, σz, h2, _, E, (sr.nx n1 r1).nx n2 r2, fun z3 h3 ρ3 H3 u3 n3 r3 p3 w3 => ?_, (kx.nx n1).nx n2, w2⟩
  split at w3
  · rename_i i j k
    obtain rfl := p1
    obtain rfl := p2
    obtain rfl := p3
    obtain ⟨n, z1, w3⟩ := w3
    exact ⟨i, j, k, n, rfl, z1, kq _ _ _ _ _ _ ((n1.trans n2).trans n3) r3 itok_rngC w3⟩
  · exact w3.elim
/-- enumerate of a list -/
theorem enumL_get : ∀ (ys : List PV) (k i : Nat), (enumL k ys)[i]? = (ys[i]?).map fun y => PV.tup [.int ((k + i : Nat) : Int), y]
  | [], k, i => by simp [enumL]
  | y :: r, k, 0 => by simp [enumL]
  | y :: r, k, i + 1 => by
    show (enumL (k + 1) r)[i]? = _
    rw [enumL_get r (k + 1) i, show k + 1 + i = k + (i + 1) by omega]
    rfl
theorem enumL_len : ∀ (ys : List PV) (k : Nat), (enumL k ys).length = ys.length
  | [], _ => rfl
  | y :: r, k => by show (enumL (k + 1) r).length + 1 = _; rw [enumL_len r, List.length_cons]
/-- a new pair for a turn -/
theorem pair_turn {ρ : List Addr} {h : Hep} {H : Hp} (r : HR X.K X.mg ρ h H) {T : Addr} (hT : H T = none) {ys : List PV} {vs : List V} (ps : Reps X.K ρ H ys vs) : Nx ρ H ρ (upd H T (.tup vs)) ∧ HR X.K X.mg ρ h (upd H T (.tup vs)) ∧ Rep X.K ρ (upd H T (.tup vs)) (.tup ys) (.ref T) := by
  obtain ⟨r1, n1⟩ := r.tupl hT (.tup vs)
  exact ⟨n1, r1, T, vs, rfl, upd_same, ps.nx r n1⟩
theorem itok_enum {ρ : List Addr} {H : Hp} {t : Bool} {a : Addr} {ys : List PV} {g : Grd} (all : ∀ (ρ' : List Addr) (h' : Hep) (H' : Hp), Nx ρ H ρ' H' → HR X.K X.mg ρ' h' H' → grdOk h' g → ∃ vs, Zh.SqB t X.K H' a vs ∧ Reps X.K ρ' H' ys vs) : ItOk X ρ H (Zh.IteB t X.K a) (enumL 0 ys) g := by
  intro ρ' h' H' n r' gg i
  obtain ⟨vs, sq, ps⟩ := all ρ' h' H' n r' gg
  refine ⟨fun hi => ⟨vs, sq, by rw [← ps.len, ← enumL_len ys 0]; exact hi⟩, fun it e => ?_⟩
  rw [enumL_get] at e
  cases ey : ys[i]? with
  | none => rw [ey] at e; cases e
  | some y =>
    rw [ey] at e
    cases e
    obtain ⟨v, ev, pv⟩ := ps.get ey
    refine ⟨⟨vs, v, sq, ev⟩, fun u H2 q => ?_⟩
    obtain ⟨T, z, rfl, hT, rfl, q⟩ := q
    have e2 := q vs sq
    rw [ev] at e2
    cases e2
    refine pair_turn r' hT ⟨_, _, rfl, ?_, v, [], rfl, pv, rfl⟩
    show V.int (i : Int) = V.int ((0 + i : Nat) : Int)
    rw [Nat.zero_add]
/-- a list or a tuple that is walked -/
theorem walk_seq {ρ : List Addr} {h : Hep} {H : Hp} {x : PV} {v : V} {F : List PV → Grd → Prop} (r : HR X.K X.mg ρ h H) (p : Rep X.K ρ H x v) {G : List PV → Prop} (l : seqW h x G) (hG : ∀ xs, G xs → walkW h x fun _ g => F xs g) :
    ∃ (t : Bool) (a : Addr) (vs : List V) (xs : List PV) (g : Grd), v = .ref a ∧ Zh.SqB t X.K H a vs ∧ F xs g ∧ ∀ (ρ' : List Addr) (h' : Hep) (H' : Hp), Nx ρ H ρ' H' → HR X.K X.mg ρ' h' H' → grdOk h' g → ∃ vs, Zh.SqB t X.K H' a vs ∧ Reps X.K ρ' H' xs vs := by
  cases x with
  | ils ys =>
    obtain ⟨a, vs, rfl, t, ps⟩ := p
    exact ⟨false, a, vs, ys, [], rfl, t.sq, hG ys l, fun ρ' h' H' n r' g => ⟨vs, (t.nx r n).sq, ps.nx r n⟩⟩
  | tup ys =>
    obtain ⟨a, vs, rfl, t, ps⟩ := p
    exact ⟨true, a, vs, ys, [], rfl, t.sq, hG ys l, fun ρ' h' H' n r' g => ⟨vs, (t.nx r n).sq, ps.nx r n⟩⟩
  | itp ys =>
    obtain ⟨a, vs, rfl, t, ps⟩ := p
    exact ⟨true, a, vs, ys, [], rfl, t.sq, hG ys l, fun ρ' h' H' n r' g => ⟨vs, (wh_nx t r n).sq, ps.nx r n⟩⟩
  | ref i =>
    obtain ⟨a, vs, ys, rfl, e1, k, e, ps, l⟩ := listed r p (show getL h i G from l)
    obtain ⟨ys', e', w⟩ := getL_some (show getL h i _ from hG ys l)
    rw [e] at e'
    cases e'
    refine ⟨false, a, vs, ys, [(i, .lst ys)], rfl, SqL.of k, w, fun ρ' h' H' n r' g => ?_⟩
    obtain ⟨b, vs', e2, k', ps'⟩ := r'.lst g.1
    rw [n.at e1] at e2; cases e2
    exact ⟨vs', SqL.of k', ps'⟩
  | _ => exact False.elim l
theorem zi_enum {elts : List Expr} {kk : Nat} {tpos : Pos} (hg : Gl X "enumerate") (hm : X.mg "enumerate" = none) (ha : PE X a (LE X W (wE Γ x))) (hs : starEach [a] X.env = [(false, eval a X.env)]) : PI X (.Tuple elts kk tpos) (.Call (.Name "enumerate" p) [a] [] pos) (LI X W (wI Γ (.enum x))) := by
  refine pi_imp (Zh.pi_enumB hg hm (pa_cons ha pa_nil hs) hs) fun σ H R ⟨ρ, σz, h, F, E, sr, kq, kx, w⟩ => ?_
  unfold wI at w
  refine ⟨ρ, σz, h, _, E, sr, fun y h1 ρ1 H1 v n1 r1 p1 w1 => ?_, kx, w⟩
  obtain ⟨t, a, vs, xs, g, rfl, sq, w2, all⟩ := walk_seq (F := fun xs g => F (enumL 0 xs) g h1) r1 p1 (show seqW h1 y _ from w1) fun xs q => q
  exact ⟨t, a, vs, rfl, sq, kq _ g h1 ρ1 H1 _ n1 r1 (itok_enum all) w2⟩
/-! ### zip of two lists -/
theorem zipL_get : ∀ (xs ys : List PV) (i : Nat) (it : PV), (zipL xs ys)[i]? = some it → ∃ x y, xs[i]? = some x ∧ ys[i]? = some y ∧ it = .tup [x, y]
  | x :: xs, y :: ys, 0, it, e => by simp [zipL] at e; exact ⟨x, y, rfl, rfl, e.symm⟩
  | x :: xs, y :: ys, i + 1, it, e => zipL_get xs ys i it (by simpa [zipL] using e)
  | [], _, i, it, e => by simp [zipL] at e
  | _ :: _, [], i, it, e => by simp [zipL] at e
theorem zipL_len : ∀ (xs ys : List PV), (zipL xs ys).length = min xs.length ys.length
  | x :: xs, y :: ys => by simp [zipL, zipL_len xs ys]
  | [], _ => by simp [zipL]
  | _ :: _, [] => by simp [zipL]
theorem itok_zip {ρ : List Addr} {H : Hp} {t u : Bool} {a b : Addr} {xs ys : List PV} {g : Grd} (all : ∀ (ρ' : List Addr) (h' : Hep) (H' : Hp), Nx ρ H ρ' H' → HR X.K X.mg ρ' h' H' → grdOk h' g → (∃ vs, Zh.SqB t X.K H' a vs ∧ Reps X.K ρ' H' xs vs) ∧ ∃ vs, Zh.SqB u X.K H' b vs ∧ Reps X.K ρ' H' ys vs) : ItOk X ρ H (Zh.ItzB t u X.K a b) (zipL xs ys) g := by
  intro ρ' h' H' n r' gg i
  obtain ⟨⟨vs, sq, ps⟩, ws, sq2, ps2⟩ := all ρ' h' H' n r' gg
  refine ⟨fun hi => ⟨vs, ws, sq, sq2, ?_⟩, fun it e => ?_⟩
  · rw [zipL_len] at hi
    rw [← ps.len, ← ps2.len]
    omega
  · obtain ⟨x, y, ex, ey, rfl⟩ := zipL_get _ _ _ _ e
    obtain ⟨v, ev, pv⟩ := ps.get ex
    obtain ⟨w, eu, pu⟩ := ps2.get ey
    refine ⟨⟨vs, ws, v, w, sq, sq2, ev, eu⟩, fun w' H2 q => ?_⟩
    obtain ⟨T, z, z2, rfl, hT, rfl, q, q2⟩ := q
    have e2 := q vs sq
    rw [ev] at e2
    cases e2
    have e3 := q2 ws sq2
    rw [eu] at e3
    cases e3
    exact pair_turn r' hT ⟨_, _, rfl, pv, _, [], rfl, pu, rfl⟩
theorem grd_app {h : Hep} : ∀ {g g' : Grd}, grdOk h (g ++ g') → grdOk h g ∧ grdOk h g'
  | [], _, q => ⟨trivial, q⟩
  | (r, xs) :: g, g', q => ⟨⟨q.1, (grd_app q.2).1⟩, (grd_app q.2).2⟩
theorem zi_zip {elts : List Expr} {kk : Nat} {tpos : Pos} (hg : Gl X "zip") (hm : X.mg "zip" = none) (ha : PE X a (LE X W (wE Γ x))) (hb : PE X b (LE X W (wE Γ y))) (hs : starEach [a, b] X.env = (false, eval a X.env) :: starEach [b] X.env) (hs2 : starEach [b] X.env = [(false, eval b X.env)]) :
    PI X (.Tuple elts kk tpos) (.Call (.Name "zip" p) [a, b] [] pos) (LI X W (wI Γ (.zip x y))) := by
  refine pi_imp (Zh.pi_zipB hg hm (pa_cons ha (pa_cons hb pa_nil hs2) hs) hs (by rw [hs2]; rfl)) fun σ H R ⟨ρ, σz, h, F, E, sr, kq, kx, w⟩ => ?_
  unfold wI at w
  refine ⟨ρ, σz, h, _, E, sr, fun y h1 ρ1 H1 v n1 r1 p1 w1 => ?_, kx, w⟩
  refine ⟨ρ1, σz, h1, _, E, sr.nx n1 r1, fun z h2 ρ2 H2 u n2 r2 p2 w2 => ?_, kx.nx n1, w1⟩
  -- both are walked
  have same : ∀ {q : PV} {G : List PV → Prop}, seqW h2 q G → ∃ xs, seqW h2 q (· = xs) ∧ G xs := by
    intro q G l
    cases q with
    | ref i =>
      obtain ⟨ys, e, l⟩ := getL_some (show getL h2 i G from l)
      refine ⟨ys, ?_, l⟩
      show getL h2 i _
      unfold getL
      rw [e]
    | ils ys => exact ⟨ys, rfl, l⟩
    | tup ys => exact ⟨ys, rfl, l⟩
    | itp ys => exact ⟨ys, rfl, l⟩
    | _ => exact False.elim l
  have wk : ∀ {q : PV} {xs : List PV} {F : List PV → Grd → Prop}, seqW h2 q (· = xs) → walkW h2 q (fun _ g => F xs g) → ∀ ys, ys = xs → walkW h2 q fun _ g => ys = xs ∧ F xs g := by
    intro q xs F l w ys ey
    cases q with
    | ref i =>
      obtain ⟨zs, e, w⟩ := getL_some (show getL h2 i _ from w)
      show getL h2 i _
      unfold getL
      rw [e]
      exact ⟨ey, w⟩
    | ils _ => exact ⟨ey, w⟩
    | tup _ => exact ⟨ey, w⟩
    | itp _ => exact ⟨ey, w⟩
    | _ => exact False.elim l
  obtain ⟨xs, l1, w2⟩ := same (show seqW h2 y _ from w2)
  obtain ⟨ys, l2, w2⟩ := same (show seqW h2 z _ from w2)
  obtain ⟨t, a, vs, xs', g, rfl, sq, ⟨exs, w3⟩, all⟩ := walk_seq (F := fun xs' g => xs' = xs ∧ walkW h2 z fun _ g' => F (zipL xs ys) (g ++ g') h2) r2 (p1.nx r1 n2) l1 fun xs' e => by
    subst e
    exact wk (F := fun _ g => walkW h2 z fun _ g' => F (zipL xs' ys) (g ++ g') h2) l1 w2 _ rfl
  obtain ⟨t', b, us, ys', g', rfl, sq2, ⟨eys, w4⟩, all2⟩ := walk_seq (F := fun ys' g' => ys' = ys ∧ F (zipL xs ys) (g ++ g') h2) r2 p2 l2 fun ys' e => by
    subst e
    exact wk (F := fun _ g' => F (zipL xs ys') (g ++ g') h2) l2 w3 _ rfl
  subst exs eys
  exact ⟨t, t', a, b, vs, us, rfl, sq, sq2, kq _ _ h2 ρ2 H2 _ (n1.trans n2) r2 (itok_zip fun ρ' h' H' n r' gg => ⟨all ρ' h' H' n r' (grd_app gg).1, all2 ρ' h' H' n r' (grd_app gg).2⟩) w4⟩
theorem itok_zipn {ρ : List Addr} {H : Hp} {a b : Addr} {i j : Nat} {xs ys : List PV} (e1 : ρ[i]? = some a) (e2 : ρ[j]? = some b) : ItOk X ρ H (Itz X.K a b) (zipL xs ys) [(i, .lst xs), (j, .lst ys)] := by
  intro ρ' h' H' n r' gg k
  obtain ⟨t, rfl⟩ := n.pre
  have at_ : ∀ {m : Nat} {c : Addr} {zs' : List PV}, ρ[m]? = some c → h'[m]? = some (.lst zs') → ∃ vs, SqL X.K H' c vs ∧ Reps X.K (ρ ++ t) H' zs' vs := fun {m c zs'} e q => by
    obtain ⟨d, vs, e3, k, ps⟩ := r'.lst q
    rw [List.getElem?_append_left (List.getElem?_eq_some_iff.mp e).1, e] at e3
    cases e3
    exact ⟨vs, SqL.of k, ps⟩
  obtain ⟨vs, sq, ps⟩ := at_ e1 gg.1
  obtain ⟨ws, sq2, ps2⟩ := at_ e2 gg.2.1
  refine ⟨fun hi => ⟨vs, ws, sq, sq2, ?_⟩, fun it e => ?_⟩
  · rw [zipL_len] at hi
    rw [← ps.len, ← ps2.len]
    omega
  · obtain ⟨x, y, ex, ey, rfl⟩ := zipL_get _ _ _ _ e
    obtain ⟨v, ev, pv⟩ := ps.get ex
    obtain ⟨w, eu, pu⟩ := ps2.get ey
    refine ⟨⟨vs, ws, v, w, sq, sq2, ev, eu⟩, fun w' H2 q => ?_⟩
    obtain ⟨T, z, z2, rfl, hT, rfl, q, q2⟩ := q
    have e2 := q vs sq
    rw [ev] at e2
    cases e2
    have e3 := q2 ws sq2
    rw [eu] at e3
    cases e3
    exact pair_turn r' hT ⟨_, _, rfl, pv, _, [], rfl, pu, rfl⟩
theorem zi_zipn {tx : Str} {tpos : Pos} (hg : Gl X "zip") (hm : X.mg "zip" = none) (ha : PE X a (LE X W (wE Γ x))) (hb : PE X b (LE X W (wE Γ y))) (hs : starEach [a, b] X.env = (false, eval a X.env) :: starEach [b] X.env) (hs2 : starEach [b] X.env = [(false, eval b X.env)]) :
    PI X (.Name tx tpos) (.Call (.Name "zip" p) [a, b] [] pos) (LI X W (wI Γ (.zipn x y))) := by
  refine pi_imp (Zh.pi_zipN hg hm (pa_cons ha (pa_cons hb pa_nil hs2) hs) hs (by rw [hs2]; rfl)) fun σ H R ⟨ρ, σz, h, F, E, sr, kq, kx, w⟩ => ?_
  unfold wI at w
  refine ⟨ρ, σz, h, _, E, sr, fun y h1 ρ1 H1 v n1 r1 p1 w1 => ?_, kx, w⟩
  refine ⟨ρ1, σz, h1, _, E, sr.nx n1 r1, fun z h2 ρ2 H2 u n2 r2 p2 w2 => ?_, kx.nx n1, w1⟩
  have q1 := p1.nx r1 n2
  cases y with
  | ref i =>
    cases z with
    | ref j =>
      obtain ⟨xs, e, w2⟩ := getL_some (show getL h2 i _ from w2)
      obtain ⟨ys, e', w2⟩ := getL_some (show getL h2 j _ from w2)
      obtain ⟨a1, vs, g1, k, ps⟩ := r2.lst e
      obtain ⟨b1, us, g2, k2, ps2⟩ := r2.lst e'
      obtain ⟨a2, f1, rfl⟩ := q1
      obtain ⟨b2, f2, rfl⟩ := p2
      rw [f1] at g1; cases g1
      rw [f2] at g2; cases g2
      exact ⟨_, _, vs, us, rfl, SqL.of k, SqL.of k2, kq _ _ h2 ρ2 H2 _ (n1.trans n2) r2 (itok_zipn f1 f2) w2⟩
    | _ => exact w2.elim
  | _ => exact w2.elim
end
end Z

/-! ZsI: comprehensions. -/
namespace Z
open PySem PyProof.Rows L2
section
variable {X : Cx} {W : WX} {e a b c : Expr} {es : List Expr} {pos p : Pos} {Γ : List Spec} {x y : Ex} {xs : List Ex}
variable {K : PySem.W.Frag} {mg : Str → Option Value} {ρ ρ' : List Addr} {h : Hep} {H H' : Hp}

/-! ### a list that isn't ours yet -/
theorem stay_off {D : Addr} {vs ws : List V} (e : H D = some (.lst vs)) : Stay K ρ H ρ (upd H D (.lst ws)) := by
  refine ⟨fun a us t => ?_, fun a us t => ?_, fun a us t => ?_, fun a cls d t => ?_, fun a fs t => ?_, fun i a q => q⟩
  · have n : a ≠ D := ne_of (o := .tup us) (u := .lst vs) t e (by intro z; cases z)
    show upd H D (.lst ws) a = _
    rw [upd_ne n]
    exact t
  · rcases t with ⟨o, t⟩ | t
    · have n : a ≠ D := ne_of (o := .frz o (.lst us)) (u := .lst vs) t e (by intro z; cases z)
      refine .inl ⟨o, ?_⟩
      rw [upd_ne n]
      exact t
    · exact .inr t
  · rcases t with ⟨o, d, t⟩ | t
    · have n : a ≠ D := ne_of (o := .frz o (.tup us)) (u := .lst vs) t e (by intro z; cases z)
      refine .inl ⟨o, d, ?_⟩
      rw [upd_ne n]
      exact t
    · exact .inr t
  · have n : a ≠ D := ne_of (o := Zh.KeptX cls d a) (u := .lst vs) t e (by intro z; have z' : HO.ext _ = HO.lst vs := z; cases z')
    rw [upd_ne n]
    exact t
  · have n : a ≠ D := ne_of (o := .xd fs) (u := .lst vs) t e (by intro z; cases z)
    rw [upd_ne n]
    exact t
theorem HR.off (r : HR K mg ρ h H) {D : Addr} {vs ws : List V} (e : H D = some (.lst vs)) (nD : D ∉ ρ) : HR K mg ρ h (upd H D (.lst ws)) :=
  ⟨r.len, r.nd, fun i o a h1 h2 => RepO.stay (stay_off e) (upd_ne fun z => nD (z ▸ List.mem_of_getElem? h2)) (r.ob i o a h1 h2)⟩
theorem Nx.off (n : Nx ρ H ρ' H') {D : Addr} (e : H D = none) (o : HO) : Nx ρ H ρ' (upd H' D o) :=
  ⟨n.pre, fun a u q z => by rw [upd_ne (ne_of_none q e)]; exact n.fr a u q z, n.nw⟩
theorem HR.adopt (r : HR K mg ρ h H) {D : Addr} {xs : List PV} {vs : List V} (e : H D = some (.lst vs)) (nD : D ∉ ρ) (ps : Reps K ρ H xs vs) : HR K mg (ρ ++ [D]) (h ++ [.lst xs]) H := by
  have st : Stay K ρ H (ρ ++ [D]) H := ⟨fun _ _ t => t, fun _ _ t => t, fun _ _ t => t, fun _ _ _ t => t, fun _ _ t => t, fun i a q => by rw [List.getElem?_append_left (List.getElem?_eq_some_iff.mp q).1]; exact q⟩
  refine ⟨by rw [List.length_append, List.length_append, r.len] <;> rfl, ?_, fun i w a h1 h2 => ?_⟩
  · rw [List.nodup_append]
    refine ⟨r.nd, by simp, fun a ha b hb => ?_⟩
    rw [List.mem_singleton.mp hb]
    exact fun z => nD (z ▸ ha)
  · by_cases hi : i < h.length
    · rw [List.getElem?_append_left hi] at h1
      rw [List.getElem?_append_left (by rw [r.len]; exact hi)] at h2
      exact RepO.stay st rfl (r.ob i w a h1 h2)
    · have hl : i < (h ++ [Ob.lst xs]).length := (List.getElem?_eq_some_iff.mp h1).1
      rw [List.length_append] at hl
      have hi' : i = h.length := by simp at hl; omega
      subst hi'
      rw [List.getElem?_append_right (Nat.le_refl _), Nat.sub_self] at h1
      rw [← r.len, List.getElem?_append_right (Nat.le_refl _), Nat.sub_self] at h2
      cases h1
      cases h2
      exact ⟨vs, e, Reps.stay st xs vs ps⟩
theorem wipe_get (σ : L2.St) : ∀ (vs : List Nat) (j : Nat), (L2.wipe σ vs)[j]? = if j ∈ vs ∧ j < σ.length then some none else σ[j]?
  | [], j => by simp [L2.wipe]
  | v :: vs, j => by
    show ((L2.wipe σ vs).set v none)[j]? = _
    have ih := wipe_get σ vs j
    by_cases hj : v = j
    · subst hj
      by_cases hl : v < σ.length
      · rw [List.getElem?_set_self (by rw [L2.wipe_length]; exact hl), if_pos ⟨List.mem_cons_self, hl⟩]
      · rw [List.getElem?_eq_none (by rw [List.length_set, L2.wipe_length]; omega), if_neg (fun z => hl z.2), List.getElem?_eq_none (by omega)]
    · rw [List.getElem?_set_ne hj, ih]
      by_cases hm : j ∈ vs ∧ j < σ.length
      · rw [if_pos hm, if_pos ⟨List.mem_cons_of_mem _ hm.1, hm.2⟩]
      · rw [if_neg hm, if_neg]
        rintro ⟨h1, h2⟩
        rcases List.mem_cons.mp h1 with z | z
        · exact hj z.symm
        · exact hm ⟨z, h2⟩
theorem wipe_but {vs ws : List Nat} {σ σ' : L2.St} (bt : But ws (L2.wipe σ vs) σ') (sub : ∀ j ∈ ws, j ∈ vs) : L2.wipe σ' vs = L2.wipe σ vs := by
  have hl : σ'.length = σ.length := by rw [bt.1, L2.wipe_length]
  refine List.ext_getElem? fun j => ?_
  rw [wipe_get, hl]
  by_cases hm : j ∈ vs ∧ j < σ.length
  · rw [if_pos hm, wipe_get, if_pos hm]
  · rw [if_neg hm]
    by_cases hv : j ∈ vs
    · have hlt : σ.length ≤ j := Nat.le_of_not_lt fun z => hm ⟨hv, z⟩
      rw [List.getElem?_eq_none (by omega), List.getElem?_eq_none (by rw [L2.wipe_length]; omega)]
    · exact bt.2 j fun z => hv (sub j z)

/-! ### comprehensions -/
theorem le_comp {own : List Nat} {t : Tg} {it : Ex} {co : Option Ex} {wi : Env → Hep → (List PV → Grd → Hep → Prop) → KX → Prop} {tt : TT} {te : TE} {el : Ex} (sub : ∀ j ∈ slotsT t, j ∈ own)
    (htt : ∀ σ H Q, LT X (fun _ _ _ _ => False) (fun σz h F _ => wC Γ co σz h F) σ H Q → tt σ H Q) (hte : ∀ σ H Q, LE X (fun _ _ _ _ => False) (wE Γ el) σ H Q → te σ H Q) (σ : L2.St) (H : Hp) (Q : VK)
    (q : LE X W (fun σz h F E => wi σz h (fun items g h1 => wComp g t (fun σ' h' G => wC Γ co σ' h' G) (fun σ' h' G => wE Γ el σ' h' G noX) (wipeZ σz own) items [] h1 fun acc h2 => F (.ref h2.length) (h2 ++ [.lst acc])) E) σ H Q) :
    tLc (LI X W wi) (LG X t) tt te own σ H Q := by
  obtain ⟨ρ, σz, h, F, E, sr, kq, kx, w⟩ := q
  refine ⟨ρ, σz, h, _, E, sr, fun items g h1 ρ1 H1 J n1 r1 ok w1 => ?_, kx, w⟩
  intro D hD
  have nD1 : D ∉ ρ1 := r1.fresh hD
  have hD0 : H D = none := by
    cases z : H D with
    | none => rfl
    | some o =>
      by_cases hm : D ∈ ρ
      · exact absurd (n1.mem hm) nD1
      · rw [n1.fr D o z hm] at hD
        cases hD
  refine ⟨fun i m H' => i + m = items.length ∧ ∃ (ρ' : List Addr) (h' : Hep) (acc : List PV) (av : List V), Nx ρ1 H1 ρ' H' ∧ HR X.K X.mg ρ' h' H' ∧ H' D = some (.lst av) ∧ Reps X.K ρ' H' acc av ∧ D ∉ ρ' ∧ SR X ρ' (wipeZ σz own) h' (L2.wipe σ own) H' ∧
      wComp g t (fun σ' h' G => wC Γ co σ' h' G) (fun σ' h' G => wE Γ el σ' h' G noX) (wipeZ σz own) (items.drop i) acc h' fun acc h2 => F (.ref h2.length) (h2 ++ [.lst acc]), ⟨items.length, by omega, ?_⟩, ?_⟩
  · obtain ⟨r2, n2⟩ := r1.tupl hD (.lst [])
    exact ⟨ρ1, h1, [], [], n2, r2, upd_same, rfl, nD1, ((sr.nx n1 r1).wipe own).nx n2 r2, by rw [List.drop_zero]; exact w1⟩
  · rintro i m H2 ⟨hi, ρ2, h2, acc, av, n2, r2, hD2, pa, nD2, s2, w2⟩
    by_cases hlt : i < items.length
    · refine .inr ?_
      have hd : items.drop i = items[i] :: items.drop (i + 1) := List.drop_eq_getElem_cons hlt
      rw [hd] at w2
      unfold wComp at w2
      obtain ⟨gk, w2⟩ := w2
      obtain ⟨go, yl⟩ := (ok ρ2 h2 H2 n2 r2 gk i).2 items[i] (List.getElem?_eq_getElem hlt)
      refine ⟨go, fun H' => ∃ (ρ' : List Addr) (h' : Hep) (acc : List PV) (av : List V), Nx ρ1 H1 ρ' H' ∧ HR X.K X.mg ρ' h' H' ∧ H' D = some (.lst av) ∧ Reps X.K ρ' H' acc av ∧ D ∉ ρ' ∧ SR X ρ' (wipeZ σz own) h' (L2.wipe σ own) H' ∧
        wComp g t (fun σ' h' G => wC Γ co σ' h' G) (fun σ' h' G => wE Γ el σ' h' G noX) (wipeZ σz own) (items.drop (i + 1)) acc h' fun acc h2 => F (.ref h2.length) (h2 ++ [.lst acc]), fun H' z => ⟨m - 1, by omega, by omega, z⟩, fun v H3 y => ?_⟩
      obtain ⟨n3, r3, pv⟩ := yl v H3 y
      split at w2
      · rename_i σz' et
        refine ⟨ρ2, wipeZ σz own, h2, items[i], s2.nx n3 r3, pv, σz', et, fun σ' s' bt => ⟨wipe_but bt sub, ?_⟩⟩
        refine htt σ' H3 _ ⟨ρ2, σz', h2, fun b h1 => if b = true then wE Γ el σz' h1 (fun y h2 => acc.length < big ∧ wComp g t (fun σ' h' G => wC Γ co σ' h' G) (fun σ' h' G => wE Γ el σ' h' G noX) (wipeZ σz own) (items.drop (i + 1)) (acc ++ [y]) h2 fun acc h2 => F (.ref h2.length) (h2 ++ [.lst acc])) noX else wComp g t (fun σ' h' G => wC Γ co σ' h' G) (fun σ' h' G => wE Γ el σ' h' G noX) (wipeZ σz own) (items.drop (i + 1)) acc h1 fun acc h2 => F (.ref h2.length) (h2 ++ [.lst acc]), noX, s', fun b h4 ρ4 H4 n4 r4 w4 => ?_, KXok.no, w2⟩
        have n34 := n3.trans n4
        have hD4 : H4 D = some (.lst av) := n34.fr D _ hD2 nD2
        have nD4 : D ∉ ρ4 := fun z => by
          have q := n34.nw D z nD2
          rw [hD2] at q
          cases q
        cases b with
        | false =>
          rw [if_neg Bool.false_ne_true] at w4
          exact iteF ⟨ρ4, h4, acc, av, n2.trans n34, r4, hD4, pa.nx r2 n34, nD4, s2.nx n34 r4, w4⟩
        | true =>
          rw [if_pos rfl] at w4
          refine iteT (hte σ' H4 _ ⟨ρ4, σz', h4, _, noX, s'.nx n4 r4, fun z h5 ρ5 H5 u n5 r5 pz w5 => ?_, KXok.no, w4⟩)
          obtain ⟨lz, w5⟩ := w5
          have n35 := n34.trans n5
          have hD5 : H5 D = some (.lst av) := n35.fr D _ hD2 nD2
          have nD5 : D ∉ ρ5 := fun z => by
            have q := n35.nw D z nD2
            rw [hD2] at q
            cases q
          have pa5 := pa.nx r2 n35
          have st := stay_off (K := X.K) (ρ := ρ5) (ws := av ++ [u]) hD5
          have s5 := s2.nx n35 r5
          refine ⟨av, hD5, by rw [← big_eq, ← pa5.len]; exact lz, ρ5, h5, acc ++ [z], av ++ [u], (n2.trans n35).off hD _, r5.off hD5 nD5, upd_same, Reps.stay st _ _ (pa5.app (Reps.one pz)), nD5, ⟨r5.off hD5 nD5, s5.len, fun j x' ej => ?_⟩, w5⟩
          obtain ⟨v', ev', pv'⟩ := s5.sl j x' ej
          exact ⟨v', ev', Rep.stay st _ _ pv'⟩
      · exact w2.elim
    · have hi' : i = items.length := by omega
      subst hi'
      rw [List.drop_length] at w2
      unfold wComp at w2
      obtain ⟨gk, w2⟩ := w2
      refine .inl ⟨(ok ρ2 h2 H2 n2 r2 gk _).1 rfl, ?_⟩
      have n02 := n1.trans n2
      refine kq (.ref h2.length) _ (ρ2 ++ [D]) H2 (.ref D) ⟨?_, n02.fr, fun a ha na => ?_⟩ (r2.adopt hD2 nD2 pa) ⟨D, by rw [← r2.len]; simp, rfl⟩ w2
      · obtain ⟨u, hu⟩ := n02.pre
        exact ⟨u ++ [D], by rw [hu, List.append_assoc]⟩
      · rcases List.mem_append.mp ha with z | z
        · exact n02.nw a z na
        · rw [List.mem_singleton.mp z]; exact hD0
/-! ### a dict walked: it is locked -/
theorem d1_nth : ∀ {kvs : List (Ky × PV)} {ws : List (Key × V)} {i : Nat} {it : PV}, RepD1 K ρ H kvs ws → (kvs.map fun p => keyV p.1)[i]? = some it → ∃ k v, ws[i]? = some (k, v) ∧ it = atomV k
  | [], _, _, _, _, e => by simp at e
  | (j, x) :: r, _, 0, it, ⟨j', v, r', e1, e2, p, ps⟩, e => by
    subst e1 e2
    simp at e
    exact ⟨j', v, rfl, e.symm⟩
  | (j, x) :: r, _, i + 1, it, ⟨j', v, r', e1, e2, p, ps⟩, e => by
    subst e1
    obtain ⟨k, v, h1, h2⟩ := d1_nth (i := i) ps (by simpa using e)
    exact ⟨k, v, by simpa using h1, h2⟩
theorem d2_nth : ∀ {kvs : List (Ky × PV)} {ws : List (List Key × V)} {i : Nat} {it : PV}, RepD2 K ρ H kvs ws → (kvs.map fun p => keyV p.1)[i]? = some it → ∃ k v, ws[i]? = some (k, v) ∧ it = .tup (k.map atomV)
  | [], _, _, _, _, e => by simp at e
  | (j, x) :: r, _, 0, it, ⟨j', v, r', e1, e2, p, ps⟩, e => by
    subst e1 e2
    simp at e
    exact ⟨j', v, rfl, e.symm⟩
  | (j, x) :: r, _, i + 1, it, ⟨j', v, r', e1, e2, p, ps⟩, e => by
    subst e1
    obtain ⟨k, v, h1, h2⟩ := d2_nth (i := i) ps (by simpa using e)
    exact ⟨k, v, by simpa using h1, h2⟩
theorem rep_atom (k : Key) : Rep K ρ H (atomV k) (kV k) := by cases k <;> rfl
theorem reps_atoms : ∀ ks : List Key, Reps K ρ H (ks.map atomV) (ks.map kV)
  | [] => rfl
  | k :: ks => ⟨kV k, ks.map kV, rfl, rep_atom k, reps_atoms ks⟩
theorem len1 : ∀ {kvs : List (Ky × PV)} {ws : List (Key × V)}, RepD1 K ρ H kvs ws → kvs.length = ws.length
  | [], _, q => by cases q; rfl
  | (j, y) :: r, _, ⟨j', u, r', e, e2, p, ps⟩ => by subst e; rw [List.length_cons, List.length_cons, len1 ps]
theorem len2 : ∀ {kvs : List (Ky × PV)} {ws : List (List Key × V)}, RepD2 K ρ H kvs ws → kvs.length = ws.length
  | [], _, q => by cases q; rfl
  | (j, y) :: r, _, ⟨j', u, r', e, e2, p, ps⟩ => by subst e; rw [List.length_cons, List.length_cons, len2 ps]
theorem itok_dK {a : Addr} {i : Nat} {o : Obj} {ws : List (Key × V)} {kvs : List (Ky × PV)} (e1 : ρ[i]? = some a) : ItOk X ρ H (Itk a o ws) (kvs.map fun p => keyV p.1) [(i, .ldc (.frz o (.dK ws)) kvs)] := by
  intro ρ' h' H' n r' g j
  obtain ⟨b, e2, hd, q⟩ := r'.get g.1
  have e1 := n.at e1
  rw [e1] at e2; cases e2
  rcases q with ⟨o', ws', e3, q⟩ | ⟨_, _, e3, _⟩
  · cases e3
    have l := len1 q
    refine ⟨fun hi => ⟨hd, by rw [List.length_map] at hi; omega⟩, fun it e => ?_⟩
    have hj := (List.getElem?_eq_some_iff.mp e).1
    rw [List.length_map] at hj
    refine ⟨⟨hd, by omega⟩, fun u H2 y => ?_⟩
    obtain ⟨rfl, k, v, y1, rfl⟩ := y
    obtain ⟨k2, v2, z1, rfl⟩ := d1_nth q e
    rw [y1] at z1
    cases z1
    exact ⟨.refl, r', rep_atom _⟩
  · cases e3
theorem itok_dT {a : Addr} {i : Nat} {o : Obj} {ws : List (List Key × V)} {kvs : List (Ky × PV)} (e1 : ρ[i]? = some a) : ItOk X ρ H (Itkt a o ws) (kvs.map fun p => keyV p.1) [(i, .ldc (.frz o (.dT ws)) kvs)] := by
  intro ρ' h' H' n r' g j
  obtain ⟨b, e2, hd, q⟩ := r'.get g.1
  have e1 := n.at e1
  rw [e1] at e2; cases e2
  rcases q with ⟨_, _, e3, _⟩ | ⟨o', ws', e3, q⟩
  · cases e3
  · cases e3
    have l := len2 q
    refine ⟨fun hi => ⟨hd, by rw [List.length_map] at hi; omega⟩, fun it e => ?_⟩
    have hj := (List.getElem?_eq_some_iff.mp e).1
    rw [List.length_map] at hj
    refine ⟨⟨hd, by omega⟩, fun u H2 y => ?_⟩
    obtain ⟨rfl, k, v, p, y1, rfl, y2⟩ := y
    obtain ⟨k2, v2, z1, rfl⟩ := d2_nth q e
    rw [y1] at z1
    cases z1
    exact ⟨.refl, r', p, _, rfl, y2, reps_atoms _⟩
theorem zi_wld {tg : Expr} {i : Nat} (he : PE X e (LE X W (wE Γ (.var i)))) : PI X tg e (LI X W (wI Γ (.wld i))) := by
  refine pi_imp (pi_keys he) fun σ H R ⟨ρ, σz, h, F, E, sr, kq, kx, w⟩ => ?_
  unfold wI at w
  split at w
  · rename_i r es
    split at w
    · rename_i u kvs er
      refine ⟨ρ, σz, h, fun x h1 => x = .ref r ∧ h1 = h, E, sr, fun y h1 ρ1 H1 v n1 r1 p1 w1 => ?_, kx, by unfold wE; rw [es]; exact ⟨rfl, rfl⟩⟩
      obtain ⟨rfl, rfl⟩ := w1
      obtain ⟨a, e1, rfl⟩ := p1
      obtain ⟨b, e2, hd, q⟩ := r1.get er
      rw [e1] at e2; cases e2
      rcases q with ⟨o, ws, rfl, q⟩ | ⟨o, ws, rfl, q⟩
      · exact ⟨a, o, rfl, .inl ⟨ws, hd, kq _ _ _ ρ1 H1 _ n1 r1 (itok_dK e1) w⟩⟩
      · exact ⟨a, o, rfl, .inr ⟨ws, hd, kq _ _ _ ρ1 H1 _ n1 r1 (itok_dT e1) w⟩⟩
    · exact w.elim
  · exact w.elim
theorem zi_wlx {tg : Expr} {y : Ex} (he : PE X e (LE X W (wE Γ y))) : PI X tg e (LI X W (wI Γ (.wlx y))) := by
  refine pi_imp (pi_keys he) fun σ H R ⟨ρ, σz, h, F, E, sr, kq, kx, w⟩ => ?_
  unfold wI at w
  refine ⟨ρ, σz, h, _, E, sr, fun y h1 ρ1 H1 v n1 r1 p1 w1 => ?_, kx, w⟩
  split at w1
  · rename_i r
    split at w1
    · rename_i u kvs er
      obtain ⟨a, e1, rfl⟩ := p1
      obtain ⟨b, e2, hd, q⟩ := r1.get er
      rw [e1] at e2; cases e2
      rcases q with ⟨o, ws, rfl, q⟩ | ⟨o, ws, rfl, q⟩
      · exact ⟨a, o, rfl, .inl ⟨ws, hd, kq _ _ _ ρ1 H1 _ n1 r1 (itok_dK e1) w1⟩⟩
      · exact ⟨a, o, rfl, .inr ⟨ws, hd, kq _ _ _ ρ1 H1 _ n1 r1 (itok_dT e1) w1⟩⟩
    · exact w1.elim
  · exact w1.elim
/-- locking, opening -/
theorem HR.lock (r : HR K mg ρ h H) {i : Nat} {kvs : List (Ky × PV)} (e : h[i]? = some (.dic kvs)) : ∃ a u, ρ[i]? = some a ∧ H a = some u ∧ Mut (some u) ∧ ∀ od, (HR K mg ρ (h.set i (.ldc (.frz od u) kvs)) (upd H a (.frz od u)) ∧ Nx ρ H ρ (upd H a (.frz od u))) ∧
    ∀ {ρ1 : List Addr} {h1 : Hep} {H1 : Hp}, Nx ρ (upd H a (.frz od u)) ρ1 H1 → HR K mg ρ1 h1 H1 → h1[i]? = some (.ldc (.frz od u) kvs) → H1 a = some (.frz od u) ∧ HR K mg ρ1 (h1.set i (.dic kvs)) (upd H1 a u) ∧ Nx ρ1 H1 ρ1 (upd H1 a u) := by
  obtain ⟨a, e1, q⟩ := r.get e
  have nx : ∀ {ρ : List Addr} {H : Hp} (o : HO), a ∈ ρ → Nx ρ H ρ (upd H a o) := fun {ρ H} o m => ⟨⟨[], by simp⟩, fun b w q z => by rw [upd_ne (fun y => z (by rw [y]; exact m) : b ≠ a)]; exact q, fun b q z => absurd q z⟩
  rcases q with ⟨ws, hd, q⟩ | ⟨ws, hd, q⟩
  · refine ⟨a, _, e1, hd, trivial, fun od => ⟨r.write e1 ⟨upd_same, .inl ⟨od, ws, rfl, RepD1.stay (r.stay (nx _ (List.mem_of_getElem? e1))) _ _ q⟩⟩, fun {ρ1 h1 H1} n r1 e2 => ?_⟩⟩
    obtain ⟨b, e3, hd1, q1⟩ := r1.get e2
    have e4 := n.at e1
    rw [e4] at e3; cases e3
    rcases q1 with ⟨o', ws', e5, q1⟩ | ⟨_, _, e5, _⟩
    · cases e5
      exact ⟨hd1, r1.write e4 (.inl ⟨ws, upd_same, RepD1.stay (r1.stay (nx _ (List.mem_of_getElem? e4))) _ _ q1⟩)⟩
    · cases e5
  · refine ⟨a, _, e1, hd, trivial, fun od => ⟨r.write e1 ⟨upd_same, .inr ⟨od, ws, rfl, RepD2.stay (r.stay (nx _ (List.mem_of_getElem? e1))) _ _ q⟩⟩, fun {ρ1 h1 H1} n r1 e2 => ?_⟩⟩
    obtain ⟨b, e3, hd1, q1⟩ := r1.get e2
    have e4 := n.at e1
    rw [e4] at e3; cases e3
    rcases q1 with ⟨_, _, e5, _⟩ | ⟨o', ws', e5, q1⟩
    · cases e5
    · cases e5
      exact ⟨hd1, r1.write e4 (.inr ⟨ws, upd_same, RepD2.stay (r1.stay (nx _ (List.mem_of_getElem? e4))) _ _ q1⟩)⟩
theorem ze_lka (hx : PE X e (LE X (fun _ _ _ _ => False) (wE Γ x))) : PE X e (LE X W (wE Γ (.lka x))) := by
  refine pe_imp (pe_lock hx) fun σ H Q ⟨ρ, σz, h, F, E, sr, kq, kx, w⟩ => ?_
  unfold wE at w
  obtain ⟨r, kvs, er, w⟩ := w
  obtain ⟨a, u, e1, hd, mu, all⟩ := sr.hr.lock er
  refine ⟨a, u, hd, mu, fun od => ?_⟩
  obtain ⟨⟨r1, n1⟩, back⟩ := all od
  refine ⟨ρ, σz, _, _, noX, sr.nx n1 r1, fun y h1 ρ1 H1 v n2 r2 p2 w2 => ?_, KXok.no, w (.frz od u)⟩
  obtain ⟨g, w2⟩ := w2
  obtain ⟨hd1, r3, n3⟩ := back n2 r2 g
  exact ⟨hd1, kq y _ ρ1 _ v (n1.trans (n2.trans n3)) r3 (p2.nx r2 n3) w2⟩
theorem ze_lck {i : Nat} (hx : PE X e (LE X (fun _ _ _ _ => False) (wE Γ x))) : PE X e (LE X W (wE Γ (.lck i x))) := by
  refine pe_imp (pe_lock hx) fun σ H Q ⟨ρ, σz, h, F, E, sr, kq, kx, w⟩ => ?_
  unfold wE at w
  split at w
  · rename_i r es
    obtain ⟨kvs, er, w⟩ := getD_some w
    obtain ⟨a, u, e1, hd, mu, all⟩ := sr.hr.lock er
    refine ⟨a, u, hd, mu, fun od => ?_⟩
    obtain ⟨⟨r1, n1⟩, back⟩ := all od
    refine ⟨ρ, σz, _, _, noX, sr.nx n1 r1, fun y h1 ρ1 H1 v n2 r2 p2 w2 => ?_, KXok.no, w (.frz od u)⟩
    obtain ⟨g, w2⟩ := w2
    obtain ⟨hd1, r3, n3⟩ := back n2 r2 g
    exact ⟨hd1, kq y _ ρ1 _ v (n1.trans (n2.trans n3)) r3 (p2.nx r2 n3) w2⟩
  · exact w.elim
end
end Z

/-! ZsJ: statements. -/
namespace Z
open PySem PyProof.Rows L2

structure DzOk (X : Cx) (W : WX) (ρ : List Addr) (H : Hp) (D : Ends) (Dd : Dz) : Prop where
  nx : ∀ (ρ' : List Addr) (σz' : Env) (h' : Hep) (σ' : L2.St) (H' : Hp), Nx ρ H ρ' H' → SR X ρ' σz' h' σ' H' → Dd.nx σz' h' → D.nx σ' H'
  bk : ∀ (ρ' : List Addr) (σz' : Env) (h' : Hep) (σ' : L2.St) (H' : Hp), Nx ρ H ρ' H' → SR X ρ' σz' h' σ' H' → Dd.bk σz' h' → D.bk σ' H'
  ct : ∀ (ρ' : List Addr) (σz' : Env) (h' : Hep) (σ' : L2.St) (H' : Hp), Nx ρ H ρ' H' → SR X ρ' σz' h' σ' H' → Dd.ct σz' h' → D.ct σ' H'
  rt : KQok X ρ H Dd.rt D.rt
  ex : ∀ (x : XV) (ρ' : List Addr) (σz' : Env) (h' : Hep) (σ' : L2.St) (H' : Hp) (cls : Value) (d : Option Addr), Nx ρ H ρ' H' → SR X ρ' σz' h' σ' H' → XR X.K X.mg ρ' H' x cls d → Dd.ex x σz' h' → W cls d σ' H'
theorem DzOk.go {X : Cx} {W : WX} {ρ ρ' : List Addr} {H H' : Hp} {D : Ends} {Dd : Dz} (k : DzOk X W ρ H D Dd) (n : Nx ρ H ρ' H') : DzOk X W ρ' H' D Dd :=
  ⟨fun a b c d e m => k.nx a b c d e (n.trans m), fun a b c d e m => k.bk a b c d e (n.trans m), fun a b c d e m => k.ct a b c d e (n.trans m), k.rt.nx n, fun a b c d e f g h m => k.ex a b c d e f g h (n.trans m)⟩
theorem DzOk.kx {X : Cx} {W : WX} {ρ : List Addr} {σz : Env} {h : Hep} {σ : L2.St} {H : Hp} {D : Ends} {Dd : Dz} (k : DzOk X W ρ H D Dd) (s : SR X ρ σz h σ H) : KXok X W σ ρ H (fun x h1 => Dd.ex x σz h1) :=
  fun x h' ρ' H' cls d n r xr w => k.ex x ρ' σz h' σ H' cls d n (s.nx n r) xr w
def LS (X : Cx) (W : WX) (w : Env → Hep → Dz → Prop) : TS := fun D σ H => ∃ (ρ : List Addr) (σz : Env) (h : Hep) (Dd : Dz), SR X ρ σz h σ H ∧ DzOk X W ρ H D Dd ∧ w σz h Dd

section
variable {X : Cx} {W : WX} {e a b c : Expr} {es : List Expr} {pos p : Pos} {Γ : List Spec} {x y : Ex} {xs : List Ex}
theorem ps_imp {s : Stmt} {t t' : TS} (h : PS X s t) (k : ∀ D σ H, t' D σ H → t D σ H) : PS X s t' := ⟨fun pins s σ H D I q => h.run pins s σ H D I (k _ _ _ q)⟩
theorem pss_imp {s : List Stmt} {t t' : TS} (h : PSs X s t) (k : ∀ D σ H, t' D σ H → t D σ H) : PSs X s t' := ⟨fun pins s σ H D I q => h.run pins s σ H D I (k _ _ _ q)⟩

theorem zss_nil : PSs X [] (LS X W (wSs Γ [])) := pss_imp pss_nil fun D σ H ⟨ρ, σz, h, Dd, s, k, w⟩ => by
  unfold wSs at w
  exact k.nx ρ σz h σ H .refl s w
theorem zss_cons {st : Stmt} {sts : List Stmt} {s : Sm} {r : List Sm} (h1 : PS X st (LS X W (wS Γ s))) (h2 : PSs X sts (LS X W (wSs Γ r))) : PSs X (st :: sts) (LS X W (wSs Γ (s :: r))) := by
  refine pss_imp (pss_cons h1 h2) fun D σ H ⟨ρ, σz, h, Dd, s, k, w⟩ => ?_
  unfold wSs at w
  refine ⟨ρ, σz, h, { Dd with nx := fun σ' h' => wSs Γ r σ' h' Dd }, s, ⟨fun ρ' σz' h' σ' H' n s' w' => ?_, k.bk, k.ct, k.rt, k.ex⟩, w⟩
  exact ⟨ρ', σz', h', Dd, s', k.go n, w'⟩
theorem zs_pss : PS X (.Pass pos) (LS X W (wS Γ .pss)) := ps_imp ps_pass fun D σ H ⟨ρ, σz, h, Dd, s, k, w⟩ => by
  unfold wS at w
  exact k.nx ρ σz h σ H .refl s w
theorem zs_brk : PS X (.Break pos) (LS X W (wS Γ .brk)) := ps_imp ps_break fun D σ H ⟨ρ, σz, h, Dd, s, k, w⟩ => by
  unfold wS at w
  exact k.bk ρ σz h σ H .refl s w
theorem zs_cnt : PS X (.Continue pos) (LS X W (wS Γ .cnt)) := ps_imp ps_continue fun D σ H ⟨ρ, σz, h, Dd, s, k, w⟩ => by
  unfold wS at w
  exact k.ct ρ σz h σ H .refl s w
theorem zs_doc {z : Str} {j : Nat} {p2 : Pos} : PS X (.Expr (.Constant (.str z) j p2) pos) (LS X W (wS Γ .doc)) := ps_imp ps_doc fun D σ H ⟨ρ, σz, h, Dd, s, k, w⟩ => by
  unfold wS at w
  exact k.nx ρ σz h σ H .refl s w
theorem zs_nev {st : Stmt} : PS X st (LS X W (wS Γ .nev)) := ps_imp ps_never fun D σ H ⟨ρ, σz, h, Dd, s, k, w⟩ => by
  unfold wS at w
  exact w
theorem zs_ret (ha : PE X a (LE X W (wE Γ x))) : PS X (.Return (some a) pos) (LS X W (wS Γ (.ret x))) := ps_imp (ps_ret ha) fun D σ H ⟨ρ, σz, h, Dd, s, k, w⟩ => by
  unfold wS at w
  exact ⟨ρ, σz, h, _, _, s, k.rt, k.kx s, w⟩
theorem zs_retN : PS X (.Return none pos) (LS X W (wS Γ .retN)) := ps_imp ps_retN fun D σ H ⟨ρ, σz, h, Dd, s, k, w⟩ => by
  unfold wS at w
  exact k.rt .non h ρ H .non .refl s.hr rfl w
theorem zs_exp (ha : PE X a (LE X W (wE Γ x))) (hs : swapsWith a none pos.line X.env = pure false) : PS X (.Expr a pos) (LS X W (wS Γ (.exp x))) := ps_imp (ps_expr ha hs) fun D σ H ⟨ρ, σz, h, Dd, s, k, w⟩ => by
  unfold wS at w
  exact ⟨ρ, σz, h, _, _, s, fun r h' ρ' H' v n hr rp w' => k.nx ρ' σz h' σ H' n (s.nx n hr) w', k.kx s, w⟩
theorem zs_ife {s1 s2 : List Stmt} {c1 c2 : List Sm} (hc : PT X c (LT X W (wT Γ x))) (ha : PSs X s1 (LS X W (wSs Γ c1))) (hb : PSs X s2 (LS X W (wSs Γ c2))) : PS X (.If c s1 s2 pos) (LS X W (wS Γ (.ife x c1 c2))) := ps_imp (ps_if hc ha hb) fun D σ H ⟨ρ, σz, h, Dd, s, k, w⟩ => by
  unfold wS at w
  refine ⟨ρ, σz, h, fun t h1 => if t = true then wSs Γ c1 σz h1 Dd else wSs Γ c2 σz h1 Dd, _, s, fun t h' ρ' H' n hr w' => ?_, k.kx s, w⟩
  cases t with
  | true => exact iteT ⟨ρ', σz, h', Dd, s.nx n hr, k.go n, w'⟩
  | false => exact iteF ⟨ρ', σz, h', Dd, s.nx n hr, k.go n, w'⟩
/-- a value stored at a target -/
theorem le_set {t : Tg} (D : Ends) (σ : L2.St) (H : Hp) (q : LS X W (wS Γ (.set t x)) D σ H) : LE X W (wE Γ x) σ H fun v H1 => LG X t v σ H1 D.nx := by
  obtain ⟨ρ, σz, h, Dd, s, k, w⟩ := q
  unfold wS at w
  refine ⟨ρ, σz, h, _, _, s, fun y h' ρ' H' v n hr py w' => ?_, k.kx s, w⟩
  split at w'
  · rename_i σz' e
    exact ⟨ρ', σz, h', y, s.nx n hr, py, σz', e, fun σ' s' _ => k.nx ρ' σz' h' σ' H' n s' w'⟩
  · exact w'.elim
theorem zs_set {t : Tg} {tg : Expr} (ha : PE X a (LE X W (wE Γ x))) (hg : PG X tg (LG X t)) (hs : swapsWithSole [tg] a pos.line X.env = pure false) (hw : swappedStores [tg] a X.env = pure none) (h1 : (assignEach [tg] X.env).map (·.2) = [assign tg X.env]) :
    PS X (.Assign [tg] a pos) (LS X W (wS Γ (.set t x))) := ps_imp (ps_asg ha hg hs hw h1) le_set
theorem zs_par {i j : Nat} {nm nm2 : Str} {px py pt : Pos} {kt k2 : Nat} {pt2 : Pos} (hc : X.calm = true) (hN : X.N.Nodup) (hi : X.N[i]? = some nm) (hj : X.N[j]? = some nm2) (hij : i ≠ j) (hx : X.env.scope.names.lookup nm = some .local) (hy : X.env.scope.names.lookup nm2 = some .local)
    (ha : PE X a (LE X W (wE Γ x))) (hb : PE X b (LE X W (wE Γ y))) (hs1 : starEach [a, b] X.env = (false, eval a X.env) :: starEach [b] X.env) (hs2 : starEach [b] X.env = (false, eval b X.env) :: starEach [] X.env)
    (hw : swappedStores [.Tuple [.Name nm px, .Name nm2 py] kt pt] (.Tuple [a, b] k2 pt2) X.env = pure (some [nm, nm2])) :
    PS X (.Assign [.Tuple [.Name nm px, .Name nm2 py] kt pt] (.Tuple [a, b] k2 pt2) pos) (LS X W (wS Γ (.par i j x y))) := ps_imp (ps_par hc hN hi hj hij hx hy (pa_cons ha (pa_cons hb pa_nil hs2) hs1) hw) fun D σ H ⟨ρ, σz, h, Dd, s, k, w⟩ => by
  unfold wS at w
  refine ⟨ρ, σz, h, _, _, s, fun y h' ρ' H' v n hr py w' => ?_, k.kx s, w⟩
  refine ⟨ρ', σz, h', _, _, s.nx n hr, fun z h2 ρ2 H2 u n2 hr2 pz w2 => ?_, (k.go n).kx (s.nx n hr), w'⟩
  refine ⟨v, u, rfl, k.nx ρ2 _ h2 _ H2 (n.trans n2) ?_ w2⟩
  exact (((s.nx n hr).nx n2 hr2).set i (py.nx hr n2)).set j pz
theorem zs_par3 {i j l : Nat} {z : Ex} {d : Expr} {n1 n2 n3 : Str} {px py pz pt : Pos} {kt k2 : Nat} {pt2 : Pos} (hc : X.calm = true) (hN : X.N.Nodup) (hi : X.N[i]? = some n1) (hj : X.N[j]? = some n2) (hl : X.N[l]? = some n3) (hij : i ≠ j) (hil : i ≠ l) (hjl : j ≠ l) (hx : X.env.scope.names.lookup n1 = some .local) (hy : X.env.scope.names.lookup n2 = some .local) (hz : X.env.scope.names.lookup n3 = some .local)
    (ha : PE X a (LE X W (wE Γ x))) (hb : PE X b (LE X W (wE Γ y))) (hd : PE X d (LE X W (wE Γ z))) (hs1 : starEach [a, b, d] X.env = (false, eval a X.env) :: starEach [b, d] X.env) (hs2 : starEach [b, d] X.env = (false, eval b X.env) :: starEach [d] X.env) (hs3 : starEach [d] X.env = (false, eval d X.env) :: starEach [] X.env)
    (hw : swappedStores [.Tuple [.Name n1 px, .Name n2 py, .Name n3 pz] kt pt] (.Tuple [a, b, d] k2 pt2) X.env = pure (some [n1, n2, n3])) :
    PS X (.Assign [.Tuple [.Name n1 px, .Name n2 py, .Name n3 pz] kt pt] (.Tuple [a, b, d] k2 pt2) pos) (LS X W (wS Γ (.par3 i j l x y z))) := ps_imp (ps_par3 hc hN hi hj hl hij hil hjl hx hy hz (pa_cons ha (pa_cons hb (pa_cons hd pa_nil hs3) hs2) hs1) hw) fun D σ H ⟨ρ, σz, h, Dd, s, k, w⟩ => by
  unfold wS at w
  refine ⟨ρ, σz, h, _, _, s, fun y h' ρ' H' v n hr py w' => ?_, k.kx s, w⟩
  refine ⟨ρ', σz, h', _, _, s.nx n hr, fun z h2 ρ2 H2 u n2 hr2 pz w2 => ?_, (k.go n).kx (s.nx n hr), w'⟩
  refine ⟨ρ2, σz, h2, _, _, (s.nx n hr).nx n2 hr2, fun q h3 ρ3 H3 t n3 hr3 pq w3 => ?_, ((k.go n).go n2).kx ((s.nx n hr).nx n2 hr2), w2⟩
  refine ⟨v, u, t, rfl, k.nx ρ3 _ h3 _ H3 ((n.trans n2).trans n3) ?_ w3⟩
  exact (((((s.nx n hr).nx n2 hr2).nx n3 hr3).set i ((py.nx hr n2).nx hr2 n3)).set j (pz.nx hr2 n3)).set l pq
theorem zs_sto {z : Ex} {p2 : Pos} (hu : X.A.units + 1 < cLine) (hv : PE X e (LE X W (wE Γ z))) (ho : PE X a (LE X W (wE Γ x))) (hi : PE X b (LE X W (wE Γ y))) (hs : swapsWith e (some (.Subscript a b p2)) pos.line X.env = pure false) :
    PS X (.Assign [.Subscript a b p2] e pos) (LS X W (wS Γ (.sto x y z))) := by
  refine ⟨fun pins s σ H D I ⟨ρ, σz, h, Dd, sr, k, w⟩ => ?_⟩
  unfold wS at w
  refine wpAny_Assign_Subscript (thn (hv.run pins s σ H (fun v H1 => ∃ (ρ1 : List Addr) (h1 : Hep) (vz : PV), Nx ρ H ρ1 H1 ∧ HR X.K X.mg ρ1 h1 H1 ∧ Rep X.K ρ1 H1 vz v ∧ wE Γ x σz h1 (fun x h2 => wE Γ y σz h2 (fun y h3 => storeW x y vz h3 fun h4 => Dd.nx σz h4) fun x h1 => Dd.ex x σz h1) fun x h1 => Dd.ex x σz h1) I
    ⟨ρ, σz, h, _, _, sr, fun vz h1 ρ1 H1 v n1 r1 p1 w1 => ⟨ρ1, h1, vz, n1, r1, p1, w1⟩, k.kx sr, w⟩) fun rv s1 ⟨v, H1, I1, rrv, ρ1, h1, vz, n1, r1, p1, w1⟩ => ?_) hs
  have s1' := sr.nx n1 r1
  refine thn (ho.run pins s1 σ H1 (fun o H2 => ∃ (ρ2 : List Addr) (h2 : Hep) (oz : PV), Nx ρ1 H1 ρ2 H2 ∧ HR X.K X.mg ρ2 h2 H2 ∧ Rep X.K ρ2 H2 oz o ∧ wE Γ y σz h2 (fun y h3 => storeW oz y vz h3 fun h4 => Dd.nx σz h4) fun x h1 => Dd.ex x σz h1) I1
    ⟨ρ1, σz, h1, _, _, s1', fun oz h2 ρ2 H2 o n2 r2 p2 w2 => ⟨ρ2, h2, oz, n2, r2, p2, w2⟩, (k.go n1).kx s1', w1⟩) fun ro s2 ⟨o, H2, I2, rro, ρ2, h2, oz, n2, r2, p2, w2⟩ => ?_
  have s2' := s1'.nx n2 r2
  refine thn (hi.run pins s2 σ H2 (fun i H3 => ∃ (ρ3 : List Addr) (h3 : Hep) (iz : PV), Nx ρ2 H2 ρ3 H3 ∧ HR X.K X.mg ρ3 h3 H3 ∧ Rep X.K ρ3 H3 iz i ∧ storeW oz iz vz h3 fun h4 => Dd.nx σz h4) I2
    ⟨ρ2, σz, h2, _, _, s2', fun iz h3 ρ3 H3 i n3 r3 p3 w3 => ⟨ρ3, h3, iz, n3, r3, p3, w3⟩, ((k.go n1).go n2).kx s2', w2⟩) fun ri s3 ⟨i, H3, I3, rri, ρ3, h3, iz, n3, r3, p3, w3⟩ => ?_
  have p1' := (p1.nx r1 n2).nx r2 n3
  have p2' := p2.nx r2 n3
  refine thn (set_all (Q := fun H4 => D.nx σ H4) hu I3 rro rri rrv r3 p2' p3 p1' w3 fun h4 H4 n4 r4 w4 => ?_) fun _ s4 ⟨H4, I4, q4⟩ => ⟨σ, H4, I4, q4⟩
  exact k.nx ρ3 σz h4 σ H4 (((n1.trans n2).trans n3).trans n4) ((s2'.nx n3 r3).nx n4 r4) w4
def noSl : Expr → Bool
  | .Slice _ _ _ _ => false
  | _ => true
theorem aug_store {b : Expr} (h : noSl b = true) (ov iv new : Value) : augStore b ov iv new = (do holding [new, ov, iv] (setItem ov iv new); release [new, ov, iv] []; pure .next) := by
  cases b <;> first | rfl | cases h
def augV (o : Operator) (r : Nat) (j m : Int) (σz : Env) (Dd : Dz) (v : PV) (h3 : Hep) : Prop := match v with
  | .int n => (o = .Add ∧ storeW (.ref r) (.int j) (.int (m + n)) h3 fun h4 => Dd.nx σz h4) ∨ (o = .Sub ∧ storeW (.ref r) (.int j) (.int (m - n)) h3 fun h4 => Dd.nx σz h4)
  | _ => False
def augK (Γ : List Spec) (o : Operator) (z : Ex) (σz : Env) (Dd : Dz) (x y : PV) (h2 : Hep) : Prop := match x, y with
  | .ref r, .int j => getL h2 r fun xs => 0 ≤ j ∧ ∃ m, xs[j.toNat]? = some (.int m) ∧ wE Γ z σz h2 (fun v h3 => augV o r j m σz Dd v h3) fun x h1 => Dd.ex x σz h1
  | _, _ => False
theorem augK_inv {Γ : List Spec} {o : Operator} {z : Ex} {σz : Env} {Dd : Dz} {x y : PV} {h2 : Hep} (w : augK Γ o z σz Dd x y h2) : ∃ r j xs m, x = .ref r ∧ y = .int j ∧ h2[r]? = some (.lst xs) ∧ 0 ≤ j ∧ xs[j.toNat]? = some (.int m) ∧ wE Γ z σz h2 (fun v h3 => augV o r j m σz Dd v h3) fun x h1 => Dd.ex x σz h1 := by
  unfold augK at w
  split at w
  · rename_i r j
    obtain ⟨xs, e, j0, m, em, w⟩ := getL_some w
    exact ⟨r, j, xs, m, rfl, rfl, e, j0, em, w⟩
  · exact w.elim
theorem augV_inv {o : Operator} {r : Nat} {j m : Int} {σz : Env} {Dd : Dz} {v : PV} {h3 : Hep} (w : augV o r j m σz Dd v h3) : ∃ n, v = .int n ∧ ((o = .Add ∧ storeW (.ref r) (.int j) (.int (m + n)) h3 fun h4 => Dd.nx σz h4) ∨ (o = .Sub ∧ storeW (.ref r) (.int j) (.int (m - n)) h3 fun h4 => Dd.nx σz h4)) := by
  unfold augV at w
  split at w
  · exact ⟨_, rfl, w⟩
  · exact w.elim
theorem zs_augi {z : Ex} {p2 : Pos} {o : Operator} (hb : noSl b = true) (hop : o = .Add ∨ o = .Sub) (hu : X.A.units + 1 < cLine) (ho : PE X a (LE X W (wE Γ x))) (hi : PE X b (LE X W (wE Γ y))) (hv : PE X e (LE X W (wE Γ z))) :
    PS X (.AugAssign (.Subscript a b p2) o e pos) (LS X W (wS Γ (.augi x y o z))) := by
  refine ⟨fun pins s σ H D I ⟨ρ, σz, h, Dd, sr, k, w⟩ => ?_⟩
  have w : wE Γ x σz h (fun xv h1 => wE Γ y σz h1 (fun yv h2 => augK Γ o z σz Dd xv yv h2) fun x h1 => Dd.ex x σz h1) fun x h1 => Dd.ex x σz h1 := by
    unfold wS at w
    exact w
  refine wpAny_AugAssign_SubscriptAny (thn (ho.run pins s σ H (fun ov H1 => ∃ (ρ1 : List Addr) (h1 : Hep) (oz : PV), Nx ρ H ρ1 H1 ∧ HR X.K X.mg ρ1 h1 H1 ∧ Rep X.K ρ1 H1 oz ov ∧ wE Γ y σz h1 (fun yv h2 => augK Γ o z σz Dd oz yv h2) fun x h1 => Dd.ex x σz h1) I
    ⟨ρ, σz, h, _, _, sr, fun oz h1 ρ1 H1 v n1 r1 p1 w1 => ⟨ρ1, h1, oz, n1, r1, p1, w1⟩, k.kx sr, w⟩) fun ro s1 ⟨ov, H1, I1, rro, ρ1, h1, oz, n1, r1, p1, w1⟩ => ?_) (aug_store hb)
  have s1' := sr.nx n1 r1
  refine thn (hi.run pins s1 σ H1 (fun iv H2 => ∃ (ρ2 : List Addr) (h2 : Hep) (iz : PV), Nx ρ1 H1 ρ2 H2 ∧ HR X.K X.mg ρ2 h2 H2 ∧ Rep X.K ρ2 H2 iz iv ∧ augK Γ o z σz Dd oz iz h2) I1
    ⟨ρ1, σz, h1, _, _, s1', fun iz h2 ρ2 H2 v n2 r2 p2 w2 => ⟨ρ2, h2, iz, n2, r2, p2, w2⟩, (k.go n1).kx s1', w1⟩) fun ri s2 ⟨iv, H2, I2, rri, ρ2, h2, iz, n2, r2, p2, w2⟩ => ?_
  have s2' := s1'.nx n2 r2
  obtain ⟨r, j, xs, m, rfl, rfl, ex, j0, em, w2⟩ := augK_inv w2
  have p1' := p1.nx r1 n2
  obtain ⟨ad, e1, rfl⟩ := id p1'
  obtain ⟨bd, vs, e2, kk, ps⟩ := r2.lst ex
  rw [e1] at e2; cases e2
  obtain rfl : iv = .int j := p2
  obtain ⟨its, rv, pl, hz⟩ := I2.list (SqL.of kk)
  cases rro
  obtain ⟨ti, rfl⟩ := id rri
  obtain ⟨vm, hvm, pvm⟩ := ps.get em
  obtain rfl : vm = .int m := pvm
  obtain ⟨um, hum, rum⟩ := rv.get hvm
  refine wpAny_getItem_list pl.isList j0 (by have l1 := (List.getElem?_eq_some_iff.mp hum).1; have l2 := rv.length; have l3 := line63; omega) (by simpa using hum) ?_
  refine thn (hv.run pins s2 σ H2 (fun v H3 => ∃ (ρ3 : List Addr) (h3 : Hep) (vz : PV), Nx ρ2 H2 ρ3 H3 ∧ HR X.K X.mg ρ3 h3 H3 ∧ Rep X.K ρ3 H3 vz v ∧ augV o r j m σz Dd vz h3) I2
    ⟨ρ2, σz, h2, _, _, s2', fun vz h3 ρ3 H3 v n3 r3 p3 w3 => ⟨ρ3, h3, vz, n3, r3, p3, w3⟩, ((k.go n1).go n2).kx s2', w2⟩) fun rv3 s3 ⟨v, H3, I3, rrv, ρ3, h3, vz, n3, r3, p3, w3⟩ => ?_
  have s3' := s2'.nx n3 r3
  obtain ⟨n, rfl, w3⟩ := augV_inv w3
  obtain rfl : v = .int n := p3
  have p1'' := p1'.nx r2 n3
  rcases w3 with ⟨eo, wst⟩ | ⟨eo, wst⟩
  · subst eo
    refine thn (in_add pins s3 σ H3 (.int m) (.int n) _ _ (fun q H4 => q = .int (m + n) ∧ H4 = H3) I3 rum rrv ⟨m, n, rfl, rfl, rfl, rfl⟩) fun w4 s4 ⟨q, H4, I4, rq, eq, eH⟩ => ?_
    subst eq
    subst eH
    refine thn (set_all (o := V.ref ad) (x := PV.ref r) (y := PV.int j) (z := PV.int (m + n)) (Q := fun H4 => D.nx σ H4) hu I4 rfl rri rq r3 p1'' rfl rfl wst fun h4 H4 n4 r4 w4 => ?_) fun _ s4 ⟨H4, I4, q4⟩ => ⟨σ, H4, I4, q4⟩
    exact k.nx ρ3 σz h4 σ H4 (((n1.trans n2).trans n3).trans n4) (s3'.nx n4 r4) w4
  · subst eo
    refine thn (in_sub pins s3 σ H3 (.int m) (.int n) _ _ (fun q H4 => q = .int (m - n) ∧ H4 = H3) I3 rum rrv ⟨m, n, rfl, rfl, rfl, rfl⟩) fun w4 s4 ⟨q, H4, I4, rq, eq, eH⟩ => ?_
    subst eq
    subst eH
    refine thn (set_all (o := V.ref ad) (x := PV.ref r) (y := PV.int j) (z := PV.int (m - n)) (Q := fun H4 => D.nx σ H4) hu I4 rfl rri rq r3 p1'' rfl rfl wst fun h4 H4 n4 r4 w4 => ?_) fun _ s4 ⟨H4, I4, q4⟩ => ⟨σ, H4, I4, q4⟩
    exact k.nx ρ3 σz h4 σ H4 (((n1.trans n2).trans n3).trans n4) (s3'.nx n4 r4) w4
theorem zs_stf {z : Ex} {c f : Str} {fl : List Str} {p2 : Pos} (cr : ClReady X c fl) (hf : f ∈ fl) (hv : PE X e (LE X W (wE Γ z))) (ho : PE X a (LE X W (wE Γ x))) (hs : swapsWith e (some (.Attribute a f p2)) pos.line X.env = pure false) :
    PS X (.Assign [.Attribute a f p2] e pos) (LS X W (wS Γ (.stf x c f z))) := by
  obtain ⟨C, hm, cl, na⟩ := cr
  have base := ps_fld (pos := pos) (pos' := p2) (f := f) ho hv hs
  refine ⟨fun pins s σ H D I ⟨ρ, σz, h, Dd, sr, k, w⟩ => base.run pins s σ H D I ?_⟩
  unfold wS at w
  refine ⟨ρ, σz, h, _, _, sr, fun vz h1 ρ1 H1 v n1 r1 p1 w1 => ?_, k.kx sr, w⟩
  have s1' := sr.nx n1 r1
  refine ⟨ρ1, σz, h1, _, _, s1', fun oz h2 ρ2 H2 o n2 r2 p2 w2 => ?_, (k.go n1).kx s1', w1⟩
  have s2' := s1'.nx n2 r2
  cases oz with
  | ref r =>
    obtain ⟨c', fs, er, ec, ln, w2⟩ := getO_some (show getO h2 r fun c' fs => c' = c ∧ fs.length < 1000 ∧ Dd.nx σz (h2.set r (.ins c (putZ f vz fs))) from w2)
    rw [ec] at er
    obtain ⟨b, e1, rfl⟩ := p2
    obtain ⟨dx, gs, kk, q⟩ := ins_of r2 hm er e1
    refine ⟨b, C, dx, gs, rfl, kk, cl, na f hf, by rw [repF_len q]; exact ln, ?_⟩
    have p1' := p1.nx r1 n2
    have n : Nx ρ2 H2 ρ2 (upd H2 b (.ins C dx (putF f v gs))) := ⟨⟨[], by simp⟩, fun b' o q z => by rw [upd_ne (fun y => z (by rw [y]; exact List.mem_of_getElem? e1) : b' ≠ b)]; exact q, fun b q z => absurd q z⟩
    obtain ⟨r3, n3⟩ := r2.write (i := r) (a := b) e1 (u := .ins C dx (putF f v gs)) (o := .ins c (putZ f vz fs)) ⟨C, dx, _, hm, upd_same, RepF.stay (r2.stay n) _ _ (repF_put p1' q)⟩
    exact k.nx ρ2 σz _ σ _ ((n1.trans n2).trans n3) (s2'.nx n3 r3) w2
  | _ => exact False.elim w2
theorem zs_aug {i : Nat} {nm : Str} {o : Operator} (ho : o = .Add ∨ o = .Sub) (hN : X.N.Nodup) (hi : X.N[i]? = some nm) (hx : Loc X.env.scope nm) (hf : X.fn nm = true ∨ X.env.scope.names.lookup nm = some .local) (ha : PE X a (LE X W (wE Γ x))) :
    PS X (.AugAssign (.Name nm p) o a pos) (LS X W (wS Γ (.aug i o x))) := by
  have core : ∀ (D : Ends) (σ : L2.St) (H : Hp), LS X W (wS Γ (.aug i o x)) D σ H → ∃ v, σ[i]? = some (some v) ∧ LE X W (wE Γ x) σ H fun u H1 => (o = .Add ∧ ∃ m n, v = .int m ∧ u = .int n ∧ D.nx (σ.set i (some (.int (m + n)))) H1) ∨ (o = .Sub ∧ ∃ m n, v = .int m ∧ u = .int n ∧ D.nx (σ.set i (some (.int (m - n)))) H1) := by
    intro D σ H ⟨ρ, σz, h, Dd, s, k, w⟩
    unfold wS at w
    split at w
    · rename_i z e
      obtain ⟨v, ev, pv⟩ := s.sl i z e
      refine ⟨v, ev, ρ, σz, h, _, _, s, fun y h1 ρ1 H1 u n1 r1 p1 w1 => ?_, k.kx s, w⟩
      have pv1 := pv.nx s.hr n1
      split at w1
      · rename_i m n
        obtain rfl := pv1
        obtain rfl := p1
        rcases w1 with ⟨eo, w1⟩ | ⟨eo, w1⟩
        · exact .inl ⟨eo, m, n, rfl, rfl, k.nx ρ1 _ h1 _ H1 n1 ((s.nx n1 r1).set i (x := .int (m + n)) rfl) w1⟩
        · exact .inr ⟨eo, m, n, rfl, rfl, k.nx ρ1 _ h1 _ H1 n1 ((s.nx n1 r1).set i (x := .int (m - n)) rfl) w1⟩
      · exact w1.elim
    · exact w.elim
  rcases ho with rfl | rfl
  · refine ps_imp (ps_aug hN hi hx ha ip_add hf) fun D σ H q => ?_
    obtain ⟨v, ev, q⟩ := core D σ H q
    refine ⟨v, ev, ?_⟩
    obtain ⟨ρ, σz, h, F, E, s, kq, kx, w⟩ := q
    refine ⟨ρ, σz, h, F, E, s, fun r h' ρ' H' u n hr rp w' => ?_, kx, w⟩
    rcases kq r h' ρ' H' u n hr rp w' with ⟨_, m, n, e1, e2, q⟩ | ⟨z, _⟩
    · exact ⟨m, n, e1, e2, q⟩
    · cases z
  · refine ps_imp (ps_aug hN hi hx ha ip_sub hf) fun D σ H q => ?_
    obtain ⟨v, ev, q⟩ := core D σ H q
    refine ⟨v, ev, ?_⟩
    obtain ⟨ρ, σz, h, F, E, s, kq, kx, w⟩ := q
    refine ⟨ρ, σz, h, F, E, s, fun r h' ρ' H' u n hr rp w' => ?_, kx, w⟩
    rcases kq r h' ρ' H' u n hr rp w' with ⟨z, _⟩ | ⟨_, m, n, e1, e2, q⟩
    · cases z
    · exact ⟨m, n, e1, e2, q⟩

/-! ### loops -/
theorem zs_whl {sb : List Stmt} {cb : List Sm} (po : PassesOwn (model X.prog X.w) X.A X.env X.xe) (hc : PT X c (LT X W (wT Γ x))) (hb : PSs X sb (LS X W (wSs Γ cb))) : PS X (.While c sb [] pos) (LS X W (wS Γ (.whl x cb))) := ps_imp (ps_while po hc hb) fun D σ H ⟨ρ, σz, h, Dd, s, k, w⟩ => by
  unfold wS at w
  obtain ⟨Wz, ⟨m0, w0⟩, turn⟩ := w
  refine ⟨fun m σ' H' => ∃ (ρ' : List Addr) (σz' : Env) (h' : Hep), Nx ρ H ρ' H' ∧ SR X ρ' σz' h' σ' H' ∧ Wz m σz' h', ⟨m0, ρ, σz, h, .refl, s, w0⟩, fun m σ1 H1 ⟨ρ1, σz1, h1, n1, s1, w1⟩ => ?_⟩
  refine ⟨ρ1, σz1, h1, _, _, s1, fun t h2 ρ2 H2 n2 r2 w2 => ?_, (k.go n1).kx s1, turn m σz1 h1 w1⟩
  cases t with
  | true =>
    rw [if_pos rfl] at w2
    refine iteT ⟨fun σ' H' => ∃ m', m' < m ∧ ∃ (ρ' : List Addr) (σz' : Env) (h' : Hep), Nx ρ H ρ' H' ∧ SR X ρ' σz' h' σ' H' ∧ Wz m' σz' h', fun σ' H' z => z, ρ2, σz1, h2, { Dd with nx := fun σ2 h2 => ∃ m', m' < m ∧ Wz m' σ2 h2, ct := fun σ2 h2 => ∃ m', m' < m ∧ Wz m' σ2 h2, bk := Dd.nx }, s1.nx n2 r2, ⟨fun ρ3 σz3 h3 σ3 H3 n3 s3 ⟨m', hm, w3⟩ => ?_, (k.go (n1.trans n2)).nx, fun ρ3 σz3 h3 σ3 H3 n3 s3 ⟨m', hm, w3⟩ => ?_, (k.go (n1.trans n2)).rt, (k.go (n1.trans n2)).ex⟩, w2⟩
    · exact ⟨m', hm, ρ3, σz3, h3, (n1.trans n2).trans n3, s3, w3⟩
    · exact ⟨m', hm, ρ3, σz3, h3, (n1.trans n2).trans n3, s3, w3⟩
  | false =>
    rw [if_neg Bool.false_ne_true] at w2
    exact iteF (k.nx ρ2 σz1 h2 σ1 H2 (n1.trans n2) (s1.nx n2 r2) w2)
theorem zs_for {t : Tg} {it : Ex} {tg iter : Expr} {sb : List Stmt} {cb : List Sm} (po : PassesOwn (model X.prog X.w) X.A X.env X.xe) (hc : X.calm = true) (hi : PI X tg iter (LI X W (wI Γ it))) (hg : PG X tg (LG X t)) (hb : PSs X sb (LS X W (wSs Γ cb)))
    (hs : ∀ x, foldedSetIterable iter X.env x = pure x) : PS X (.For tg iter sb [] pos) (LS X W (wS Γ (.for_ t it cb))) := ps_imp (ps_for po hc hi hg hb hs) fun D σ H ⟨ρ, σz, h, Dd, s, k, w⟩ => by
  unfold wS at w
  refine ⟨ρ, σz, h, _, _, s, fun items g h1 ρ1 H1 J n1 r1 ok w1 => ?_, k.kx s, w⟩
  refine ⟨fun i m σ' H' => i + m = items.length ∧ ∃ (ρ' : List Addr) (σz' : Env) (h' : Hep), Nx ρ1 H1 ρ' H' ∧ SR X ρ' σz' h' σ' H' ∧ wFor g t (fun σ' h' D' => wSs Γ cb σ' h' D') (items.drop i) σz' h' Dd, ⟨items.length, by omega, ρ1, σz, h1, .refl, s.nx n1 r1, by rw [List.drop_zero]; exact w1⟩, ?_⟩
  rintro i m σ2 H2 ⟨hi, ρ2, σz2, h2, n2, s2, w2⟩
  have n02 := n1.trans n2
  by_cases hlt : i < items.length
  · refine .inr ?_
    rw [List.drop_eq_getElem_cons hlt] at w2
    unfold wFor at w2
    obtain ⟨gk, w2⟩ := w2
    obtain ⟨go, yl⟩ := (ok ρ2 h2 H2 n2 s2.hr gk i).2 items[i] (List.getElem?_eq_getElem hlt)
    refine ⟨go, fun σ' H' => ∃ (ρ' : List Addr) (σz' : Env) (h' : Hep), Nx ρ1 H1 ρ' H' ∧ SR X ρ' σz' h' σ' H' ∧ wFor g t (fun σ' h' D' => wSs Γ cb σ' h' D') (items.drop (i + 1)) σz' h' Dd, fun σ' H' z => ⟨m - 1, by omega, by omega, z⟩, fun v H3 y => ?_⟩
    obtain ⟨n3, r3, pv⟩ := yl v H3 y
    split at w2
    · rename_i σz' et
      refine ⟨ρ2, σz2, h2, items[i], s2.nx n3 r3, pv, σz', et, fun σ' s' _ => ?_⟩
      have n03 := n02.trans n3
      refine ⟨ρ2, σz', h2, { Dd with nx := fun σ2 h2 => wFor g t (fun σ' h' D' => wSs Γ cb σ' h' D') (items.drop (i + 1)) σ2 h2 Dd, ct := fun σ2 h2 => wFor g t (fun σ' h' D' => wSs Γ cb σ' h' D') (items.drop (i + 1)) σ2 h2 Dd, bk := Dd.nx }, s', ⟨fun ρ4 σz4 h4 σ4 H4 n4 s4 w4 => ?_, (k.go n03).nx, fun ρ4 σz4 h4 σ4 H4 n4 s4 w4 => ?_, (k.go n03).rt, (k.go n03).ex⟩, w2⟩
      · exact ⟨ρ4, σz4, h4, (n2.trans n3).trans n4, s4, w4⟩
      · exact ⟨ρ4, σz4, h4, (n2.trans n3).trans n4, s4, w4⟩
    · exact w2.elim
  · have hi' : i = items.length := by omega
    subst hi'
    rw [List.drop_length] at w2
    unfold wFor at w2
    obtain ⟨gk, w2⟩ := w2
    exact .inl ⟨(ok ρ2 h2 H2 n2 s2.hr gk _).1 rfl, k.nx ρ2 σz2 h2 σ2 H2 n02 s2 w2⟩
/-! ### exceptions -/
theorem zs_rai {c m : Str} {j : Nat} {p2 p3 : Pos} (er : ErReady X c) (hc : X.calm = true) (tk : Takes X W) (hg : Gl X c) (hd : (c == ("__debug__" : Str)) = false) : PS X (.Raise (some (.Call (.Name c p) [.Constant (.str m) j p2] [] p3)) none pos) (LS X W (wS Γ (.rai c))) := by
  obtain ⟨C, hm, hn, hx, hk, h1, h2⟩ := er
  refine ps_imp (ps_raise hc tk (pmk_own PySem.F.excBase_ValueError hx hm hk (raises_own h1 h2) hg hd)) fun D σ H ⟨ρ, σz, h, Dd, s, k, w⟩ => ?_
  unfold wS at w
  show W (.ref C) none σ H
  exact k.ex ⟨c, []⟩ ρ σz h σ H _ _ .refl s ⟨C, hn, rfl, .inl ⟨rfl, rfl⟩⟩ w
theorem zs_raf {c f : Str} {p3 : Pos} (er : EiReady X c f) (hc : X.calm = true) (tk : Takes X W) (hg : Gl X c) (hd : (c == ("__debug__" : Str)) = false) (ha : PE X a (LE X W (wE Γ x))) (hs : ∀ r, starEach (a :: r) X.env = (false, eval a X.env) :: starEach r X.env) :
    PS X (.Raise (some (.Call (.Name c p) [a] [] p3)) none pos) (LS X W (wS Γ (.raf c f x))) := by
  obtain ⟨C, fI, fd, ps, kk, hm, hn, T, hno, iC, tI, F, hr, hb⟩ := er
  have nox : Passes (L2.CX X.prog X.w) X (fun _ _ _ => False) := fun pins σ H s e s' I c => by
    obtain ⟨_, _, _, _, _, _, _, _, _, _, _, _, z⟩ := c
    exact z.elim
  refine ps_imp (ps_raise hc tk (pmk_oex T iC tI F hr hb .nil nox hg hm (pa_cons ha pa_nil (hs _)) hd (hs _) rfl)) fun D σ H ⟨ρ, σz, h, Dd, s, k, w⟩ => ?_
  unfold wS at w
  refine ⟨ρ, σz, h, _, _, s, fun v h1 ρ1 H1 u n1 r1 p1 w1 => ?_, k.kx s, w⟩
  refine ⟨(by show 1 ≤ 1000; decide), fun a na => ⟨a, C, u, rfl, T, hno, upd_same, fun dx nd ne => ⟨rfl, dx, [(f, u)], upd_same, ?_, ?_, ?_⟩⟩⟩
  · rw [upd_ne ne]
    exact upd_same
  · rw [upd_ne ne] at nd
    exact nd
  · rw [upd_ne ne] at nd
    have e : upd (del (upd (upd (upd H1 a (exo a C none)) dx (exd dx [(f, u)])) a (exo a C (some dx))) a) dx (.xd [(f, u)]) = upd H1 dx (.xd [(f, u)]) := by
      funext b
      by_cases h1 : b = dx
      · rw [h1, upd_same, upd_same]
      · rw [upd_ne h1, upd_ne h1]
        by_cases h2 : b = a
        · rw [h2, del_same, na]
        · rw [del_ne h2, upd_ne h2, upd_ne h1, upd_ne h2]
    rw [e]
    obtain ⟨r2, n2⟩ := r1.tupl nd (.xd [(f, u)])
    exact k.ex ⟨c, [(f, v)]⟩ ρ1 σz h1 σ _ _ _ (n1.trans n2) (s.nx (n1.trans n2) r2) ⟨C, hn, rfl, .inr ⟨dx, [(f, u)], rfl, upd_same, r1.fresh nd, ⟨u, [], rfl, p1.nx r1 n2, rfl⟩⟩⟩ w1
theorem repF_zip {K : PySem.W.Frag} {ρ : List Addr} {H : Hp} : ∀ {fs : List (Str × PV)} {gs : List (Str × V)}, RepF K ρ H fs gs → (fs.map (·.1)).zip (gs.map (·.2)) = gs ∧ Reps K ρ H (fs.map (·.2)) (gs.map (·.2)) ∧ fs.length = gs.length
  | [], _, q => by cases q; exact ⟨rfl, rfl, rfl⟩
  | (f, x) :: fs, _, ⟨v, r, e, p, q⟩ => by
    subst e
    obtain ⟨q1, q2, q3⟩ := repF_zip q
    exact ⟨by rw [List.map_cons, List.map_cons, List.zip_cons_cons, q1], ⟨v, _, rfl, p, q2⟩, by rw [List.length_cons, List.length_cons, q3]⟩
theorem kept_rep {ρ : List Addr} {h : Hep} {H : Hp} {x : XV} {cls : Value} {d : Option Addr} {a : Addr} (r : HR X.K X.mg ρ h H) (q : XR X.K X.mg ρ H x cls d) (na : H a = none) : Rep X.K ρ (upd H a (Zh.KeptX cls d a)) (keptV x) (.ref a) := by
  obtain ⟨C, hn, rfl, z⟩ := q
  have st := (r.tupl na (Zh.KeptX (.ref C) d a)).2
  rcases z with ⟨e1, e2⟩ | ⟨dd, gs, e1, e2, e3, e4⟩
  · refine ⟨a, C, d, [], rfl, hn, upd_same, ?_, ?_, .inl ⟨?_, e2⟩⟩
    · rw [e1]; exact rfl
    · rw [e1]; rfl
    · rw [e1]; rfl
  · obtain ⟨q1, q2, q3⟩ := repF_zip e4
    refine ⟨a, C, d, gs.map (·.2), rfl, hn, upd_same, Reps.stay (r.stay st) _ _ q2, by rw [List.length_map, List.length_map, q3], .inr ⟨dd, e1, ?_⟩⟩
    rw [q1, upd_ne (ne_of_none e2 na)]
    exact e2
theorem zs_tryk {c n m : Str} {i j : Nat} {b : List Sm} {cs rs ts : List Str} {body : List Stmt} {np p1 p2 p3 pos' : Pos} (xr : XsReady X rs ts) (hcs : ∀ a ∈ cs, a ∈ rs) (hct : c ∈ ts) (hs : X.stack = X.env :: X.outer) (hf : X.env.frame = some X.env.locals) (hex : X.ex = []) (hN : X.N.Nodup) (hi : X.N[i]? = some n) (hj : X.N[j]? = some m) (ij : i ≠ j)
    (hln : X.env.kindOf n = some .local) (hlm : X.env.kindOf m = some .local) (hg : Gl X c) (hd : (c == ("__debug__" : Str)) = false) (hdn : (n == ("__debug__" : Str)) = false) (hcn : (n == ("__classdict__" : Str)) = false) (tk : Takes X W) (hrs : rs ≠ [])
    (hb : ∀ (W' : WX) (pn : List (Addr × Obj)) (xe : Value → Shared → Prop), Takes (X.tr pn xe) W' → PassesOwn (model X.prog X.w) X.A X.env xe → PSs (X.tr pn xe) body (LS X W' (wSs Γ b))) :
    PS X (.Try body [.ExceptHandler (some (.Name c np)) (some n) [.Assign [.Name m p1] (.Name n p2) p3] pos'] [] [] pos) (LS X W (wS Γ (.tryk b cs c i j))) := by
  obtain ⟨cv, hcv⟩ : ∃ cv, XnIs X c cv := by
    cases rs with
    | nil => exact absurd rfl hrs
    | cons a rs =>
      obtain ⟨C, _, _, q⟩ := xr a List.mem_cons_self
      obtain ⟨cv, q, _⟩ := q c hct
      exact ⟨cv, q⟩
  have uniq : ∀ cv', XnIs X c cv' → cv' = cv := fun cv' q => by
    rcases q with q | ⟨q1, q2, _⟩ <;> rcases hcv with z | ⟨z1, z2, _⟩
    · rw [q] at z; exact Option.some.inj z
    · rw [q] at z1; cases z1
    · rw [z] at q1; cases q1
    · rw [q2] at z2; exact Option.some.inj z2
  refine ps_imp (Zh.ps_try_keep hs hf hex hN hi hj hln hlm ⟨hg, hd, hcv⟩ tk hdn hcn (tb := fun W' => LS X W' (wSs Γ b)) hb) fun D σ H ⟨ρ, σz, h, Dd, s, k, w⟩ => ?_
  unfold wS at w
  refine ⟨ρ, σz, h, { Dd with ex := fun x σ' h' => x.cls ∈ cs ∧ if subX x.cls c = true then Dd.nx ((σ'.set j (some (keptV x))).set i none) h' else Dd.ex x σ' h' }, s, ⟨k.nx, k.bk, k.ct, k.rt, fun x ρ1 σz1 h1 σ1 H1 cls d n1 s1 q w1 => ?_⟩, w⟩
  obtain ⟨hx, w1⟩ := w1
  have q' := q
  obtain ⟨C, hn, ec, _⟩ := q'
  obtain ⟨C', hn', _, facts⟩ := xr x.cls (hcs _ hx)
  rw [hn] at hn'
  cases hn'
  obtain ⟨cv', e1, e2, _⟩ := facts c hct
  rw [uniq cv' e1] at e2
  subst ec
  refine ⟨subX x.cls c, e2, fun yes a na => ?_, fun no => ?_⟩
  · rw [if_pos yes] at w1
    have kr := kept_rep s1.hr q na
    obtain ⟨r2, n2⟩ := s1.hr.tupl na (Zh.KeptX (.ref C) d a)
    have s2 := ((s1.nx n2 r2).set j kr).wipe [i]
    have e : ((σ1.set i (some (V.ref a))).set j (some (V.ref a))).set i none = (σ1.set j (some (V.ref a))).set i none := by
      rw [List.set_comm _ _ ij, List.set_set]
    rw [e]
    exact k.nx ρ1 _ h1 _ _ (n1.trans n2) s2 w1
  · rw [if_neg (by rw [no]; exact Bool.false_ne_true)] at w1
    exact k.ex x ρ1 σz1 h1 σ1 H1 _ d n1 s1 q w1

/-- a statement while a dict is locked -/
theorem zs_lcs {st : Stmt} {s : Sm} {i : Nat} (hs : PS X st (LS X (fun _ _ _ _ => False) (wS Γ s))) : PS X st (LS X W (wS Γ (.lcs i s))) := by
  refine ps_imp (ps_lock hs) fun D σ H ⟨ρ, σz, h, Dd, sr, k, w⟩ => ?_
  unfold wS at w
  split at w
  · rename_i r es
    obtain ⟨kvs, er, w⟩ := getD_some w
    obtain ⟨a, u, e1, hd, mu, all⟩ := sr.hr.lock er
    refine ⟨a, u, hd, mu, fun od => ?_⟩
    obtain ⟨⟨r1, n1⟩, back⟩ := all od
    have open' : ∀ {ρ1 : List Addr} {σz1 : Env} {h1 : Hep} {σ1 : L2.St} {H1 : Hp}, Nx ρ (upd H a (.frz od u)) ρ1 H1 → SR X ρ1 σz1 h1 σ1 H1 → h1[r]? = some (.ldc (.frz od u) kvs) → H1 a = some (.frz od u) ∧ Nx ρ H ρ1 (upd H1 a u) ∧ SR X ρ1 σz1 (h1.set r (.dic kvs)) σ1 (upd H1 a u) := fun n2 s1 g => by
      obtain ⟨hd1, r3, n3⟩ := back n2 s1.hr g
      exact ⟨hd1, n1.trans (n2.trans n3), s1.nx n3 r3⟩
    refine ⟨ρ, σz, _, _, sr.nx n1 r1, ⟨fun ρ' σz' h' σ' H' n s w' => ?_, fun ρ' σz' h' σ' H' n s w' => ?_, fun ρ' σz' h' σ' H' n s w' => ?_, fun y h' ρ' H' v n hr rp w' => ?_, fun x ρ1 σz1 h1 σ1 H1 cls d n s xr z => False.elim z⟩, w (.frz od u)⟩
    · obtain ⟨hd1, n2, s2⟩ := open' n s w'.1
      exact ⟨hd1, k.nx _ _ _ _ _ n2 s2 w'.2⟩
    · obtain ⟨hd1, n2, s2⟩ := open' n s w'.1
      exact ⟨hd1, k.bk _ _ _ _ _ n2 s2 w'.2⟩
    · obtain ⟨hd1, n2, s2⟩ := open' n s w'.1
      exact ⟨hd1, k.ct _ _ _ _ _ n2 s2 w'.2⟩
    · obtain ⟨hd1, r3, n3⟩ := back n hr w'.1
      exact ⟨hd1, k.rt y _ ρ' _ v (n1.trans (n.trans n3)) r3 (rp.nx hr n3) w'.2⟩
  · exact w.elim
end
end Z

/-! ZsK: the look that a text of Z's is a def's body, and soundness as a whole. -/
namespace Z
open PySem PyProof.Rows L2

/-! ### looks -/
def lkB (sc : Scope) (x : Str) (k : NameKind) : Bool := decide (sc.names.lookup x = some k)
def visB (sc : Scope) (x : Str) : Bool := lkB sc x .local || lkB sc x .cell || lkB sc x .free
def glB (sc : Scope) (x : Str) : Bool := lkB sc x .globalImplicit && !(x == ("__debug__" : Str))
def nStar : Expr → Bool
  | .Starred .. => false
  | _ => true
def nSlice : Expr → Bool
  | .Slice .. => false
  | _ => true
def nSet : Expr → Bool
  | .Set .. => false
  | _ => true
def nComp : Expr → Bool
  | .ListComp .. => false
  | .SetComp .. => false
  | .DictComp .. => false
  | _ => true
def attrOk : Expr → Bool
  | .Call (.Name _ _) [] [] _ => false
  | _ => true
theorem star_of {e : Expr} (h : nStar e = true) (r : List Expr) (env : PySem.Env) : starEach (e :: r) env = (false, eval e env) :: starEach r env := by
  cases e <;> first | rfl | cases h
theorem plain_ix {e : Expr} (h : nSlice e = true) : PlainIx e := by
  intro o i
  cases e <;> first | rfl | cases h
theorem marks_of {o : CmpOp} {e : Expr} (h : nSet e = true) : behindInMarks o e = false := by
  cases e <;> first | rfl | cases h
theorem marks3_of {o o' o'' : CmpOp} {a b e : Expr} (h : nSet e = true) : lastMarks [o, o', o''] [a, b, e] = false := marks_of h
theorem marks2_of {o o' : CmpOp} {a e : Expr} (h : nSet e = true) : lastMarks [o, o'] [a, e] = false := marks_of h
theorem folded_of {e : Expr} (h : nSet e = true) (env : PySem.Env) (x : Value) : foldedSetIterable e env x = pure x := by
  cases e <;> first | rfl | cases h
theorem swap_no {e : Expr} (h : nComp e = true) (t : Option Expr) (l : Nat) (env : PySem.Env) : swapsWith e t l env = pure false := by
  cases e <;> first | rfl | cases h
theorem attr_of {e : Expr} (h : attrOk e = true) (n : Str) (env : PySem.Env) (w : Sem Value) : attributeBase e n env w = w := by
  cases e with
  | Call f as ks p =>
    cases f <;> cases as <;> cases ks <;> first | rfl | cases h
  | _ => rfl

mutual
def PV.same : PV → PV → Bool
  | .non, .non => true
  | .bl a, .bl b => a == b
  | .int a, .int b => a == b
  | .str a, .str b => a == b
  | .itp a, .itp b => PV.sames a b
  | _, _ => false
def PV.sames : List PV → List PV → Bool
  | [], [] => true
  | x :: xs, y :: ys => PV.same x y && PV.sames xs ys
  | _, _ => false
end
mutual
theorem PV.same_eq : ∀ {x y : PV}, x.same y = true → x = y
  | .non, .non, _ => rfl
  | .bl a, .bl b, h => congrArg PV.bl (by simpa [PV.same] using h)
  | .int a, .int b, h => congrArg PV.int (by simpa [PV.same] using h)
  | .str a, .str b, h => congrArg PV.str (by simpa [PV.same] using h)
  | .itp a, .itp b, h => congrArg PV.itp (PV.sames_eq h)
theorem PV.sames_eq : ∀ {x y : List PV}, PV.sames x y = true → x = y
  | [], [], _ => rfl
  | x :: xs, y :: ys, h => by
    have h : (PV.same x y && PV.sames xs ys) = true := h
    rw [Bool.and_eq_true] at h
    rw [PV.same_eq h.1, PV.sames_eq h.2]
end

def miName : MI → String
  | .append => "append" | .pop => "pop" | .popAt => "pop" | .index => "index" | .remove => "remove" | .extend => "extend" | .clear => "clear" | .count => "count"
def smName : SM → String
  | .join => "join" | .index => "index"
def mtK : List At → List (Option Expr) → Bool
  | [], [] => true
  | .inr k :: ks, some (.Constant (.str x) _ _) :: r => x == k && mtK ks r
  | .inl k :: ks, some (.Constant (.int x) _ _) :: r => decide (x = k) && mtK ks r
  | _, _ => false
def miAr : MI → Nat
  | .append => 1 | .pop => 0 | .popAt => 1 | .index => 1 | .remove => 1 | .extend => 1 | .clear => 0 | .count => 1
/-- the shape of a built-in's call: the names it leans on, its arguments -/
def biForm (b : BI) (x : Str) (as : List Expr) : Option (List Str × List Expr) := match b with
  | .tuple => if x == ("tuple" : Str) && decide (as.length = 1) then some ([x], as) else none
  | .xtuple => if x == ("tuple" : Str) && decide (as.length = 1) then some ([x], as) else none
  | .dictenum => (match as with
    | [.Call (.Name y _) bs [] _] => if x == ("dict" : Str) && y == ("enumerate" : Str) && decide (bs.length = 1) then some ([x, y], bs) else none
    | _ => none)
  | .lenkeys => (match as with
    | [.Call (.Name y _) bs [] _] => if x == ("len" : Str) && y == ("set" : Str) && decide (bs.length = 1) then some ([x, y], bs) else none
    | _ => none)
  | .lenset => (match as with
    | [.Call (.Name y _) bs [] _] => if x == ("len" : Str) && y == ("set" : Str) && decide (bs.length = 1) then some ([x, y], bs) else none
    | _ => none)
  | .sortedset => (match as with
    | [.Call (.Name y _) bs [] _] => if x == ("sorted" : Str) && y == ("set" : Str) && decide (bs.length = 1) then some ([x, y], bs) else none
    | _ => none)
  | .listrange => (match as with
    | [.Call (.Name y _) bs [] _] => if x == ("list" : Str) && y == ("range" : Str) && (decide (bs.length = 1) || decide (bs.length = 2)) then some ([x, y], bs) else none
    | _ => none)
  | b => (match biName b with
    | some (n, _) => if x == Str.ofString n && !as.isEmpty then some ([x], as) else none
    | none => none)
def ownP (N : List Str) (own : List Nat) : List (Str × Nat) := own.filterMap fun i => (N[i]?).map fun x => (x, i)
/-- where a comprehension may store -/
def tkB (scope sc : Scope) (x : Str) : Bool := lkB (L2.relS scope sc) x .local || (lkB (L2.relS scope sc) x .cell && decide (scope.names.lookup x = some .cell))
def tkD (sc : Scope) (x : Str) : Bool := lkB sc x .local || lkB sc x .cell

mutual
def mtT (N : List Str) (tk : Str → Bool) : Tg → Expr → Bool
  | .nm i, .Name x _ => decide (N[i]? = some x) && tk x
  | .tp ts, .Tuple es _ _ => mtTs N tk ts es
  | _, _ => false
def mtTs (N : List Str) (tk : Str → Bool) : List Tg → List Expr → Bool
  | [], [] => true
  | t :: ts, e :: es => mtT N tk t e && mtTs N tk ts es
  | _, _ => false
end
mutual
def mtE (nm : List Cn) (cs : List (Str × PV)) (N : List Str) : Scope → Ex → Expr → Bool
  | sc, .var i, .Name x _ => decide (N[i]? = some x) && visB sc x && !(x == ("__debug__" : Str)) && !(x == ("__classdict__" : Str))
  | _, .non, .Constant .none _ _ => true
  | _, .bl b, .Constant (.bool c) _ _ => b == c
  | _, .int i, .Constant (.int j) _ _ => i == j
  | _, .str s, .Constant (.str t) _ _ => s == t
  | sc, .con x v, .Name y _ => x == y && glB sc y && cs.any fun p => p.1 == y && p.2.same v
  | sc, .bin o a b, .BinOp l p r _ => decide (o = p) && mtE nm cs N sc a l && mtE nm cs N sc b r
  | sc, .neg a, .UnaryOp .USub l _ => mtE nm cs N sc a l
  | sc, .not a, .UnaryOp .Not l _ => mtE nm cs N sc a l
  | sc, .and a b, .BoolOp .And (x :: y :: r) pos => mtE nm cs N sc a x && (match r with | [] => mtE nm cs N sc b y | z :: r => mtE nm cs N sc b (.BoolOp .And (y :: z :: r) pos))
  | sc, .or a b, .BoolOp .Or (x :: y :: r) pos => mtE nm cs N sc a x && (match r with | [] => mtE nm cs N sc b y | z :: r => mtE nm cs N sc b (.BoolOp .Or (y :: z :: r) pos))
  | sc, .ife c a b, .IfExp t l r _ => mtE nm cs N sc c t && mtE nm cs N sc a l && mtE nm cs N sc b r
  | sc, .cmp o a b, .Compare l [p] [r] _ => decide (o = p) && nSet r && mtE nm cs N sc a l && mtE nm cs N sc b r
  | sc, .chn o o' a b c, .Compare l [p, p'] [r, t] _ => decide (o = p) && decide (o' = p') && nSet t && mtE nm cs N sc a l && mtE nm cs N sc b r && mtE nm cs N sc c t
  | sc, .chn3 o o' o'' a b c d, .Compare l [p, p', p''] [r, t, u] _ => decide (o = p) && decide (o' = p') && decide (o'' = p'') && nSet u && mtE nm cs N sc a l && mtE nm cs N sc b r && mtE nm cs N sc c t && mtE nm cs N sc d u
  | sc, .tup es, .Tuple as _ _ => mtEs nm cs N sc es as
  | sc, .xtp es, .Tuple as _ _ => mtEs nm cs N sc es as
  | sc, .dg1 a k, .Call (.Attribute o n apos) [b] [] pos => n == ("get" : Str) && attrOk o && apos.endLine == pos.line && nStar b && mtE nm cs N sc a o && mtE nm cs N sc k b
  | sc, .dg2 a k d, .Call (.Attribute o n apos) [b, c] [] pos => n == ("get" : Str) && attrOk o && apos.endLine == pos.line && nStar b && nStar c && mtE nm cs N sc a o && mtE nm cs N sc k b && mtE nm cs N sc d c
  | sc, .sm m a k, .Call (.Attribute o n apos) [b] [] pos => n == Str.ofString (smName m) && attrOk o && apos.endLine == pos.line && nStar b && mtE nm cs N sc a o && mtE nm cs N sc k b
  | sc, .dcd ks es, .Dict keys as _ => mtK ks keys && decide (1 ≤ ks.length ∧ ks.length ≤ 15 ∧ ks.length = es.length) && mtEs nm cs N sc es as
  | sc, .lst es, .List as _ => mtEs nm cs N sc es as
  | _, .dct, .Dict [] [] _ => true
  | sc, .idx a i, .Subscript l j _ => nSlice j && mtE nm cs N sc a l && mtE nm cs N sc i j
  | sc, .slc a lo hi, .Subscript l (.Slice p q none _) _ => mtE nm cs N sc a l && mtO nm cs N sc lo p && mtO nm cs N sc hi q
  | sc, .call f es, .Call (.Name x _) as [] _ => decide (nm[f]? = some (.fn x)) && glB sc x && mtEs nm cs N sc es as
  | sc, .fld a c f, .Attribute (.Name x p) g _ => g == f && nm.any (fun q => match q with | .cl c' fs => c' == c && fs.contains f | _ => false) && mtE nm cs N sc a (.Name x p)
  | sc, .fldx a c f, .Attribute o g _ => g == f && nm.any (fun q => decide (q = .xf c f)) && attrOk o && mtE nm cs N sc a o
  | sc, .mth i c m a es, .Call (.Attribute (.Name x p) g apos) as [] pos => g == m && decide (as.length < 30) && apos.endLine == pos.line && decide (nm[i]? = some (.me c m)) && mtE nm cs N sc a (.Name x p) && mtEs nm cs N sc es as
  | sc, .new i c es, .Call (.Name x _) as [] _ => x == c && decide (nm[i]? = some (.mk c)) && glB sc x && mtEs nm cs N sc es as
  | sc, .bi b es, .Call (.Name x _) as [] _ => (match biForm b x as with | some (gs, bs) => gs.all (glB sc) && mtEs nm cs N sc es bs | none => false)
  | sc, .mi m o es, .Call (.Attribute a n apos) as [] pos => n == Str.ofString (miName m) && decide (as.length = miAr m) && attrOk a && apos.endLine == pos.line && mtE nm cs N sc o a && mtEs nm cs N sc es as
  | sc, .isi x t, .Call (.Name f _) [a, .Name ty _] [] _ => f == ("isinstance" : Str) && ty == Str.ofString (itName t) && glB sc f && glB sc ty && nStar a && mtE nm cs N sc x a
  | sc, .isx x rs c, .Call (.Name f _) [a, .Name ty _] [] _ => f == ("isinstance" : Str) && ty == c && glB sc f && glB sc ty && !rs.isEmpty && nm.any (fun q => match q with | .xs rs' ts => decide (rs' = rs) && ts.contains c | _ => false) && !(ty == ("__debug__" : Str)) && nStar a && mtE nm cs N sc x a
  | sc, .isxs x rs ks, .Call (.Name f _) [a, .Tuple es _ _] [] _ => f == ("isinstance" : Str) && mtN ks es && glB sc f && ks.all (fun c => glB sc c && !(c == ("__debug__" : Str))) && !rs.isEmpty && nm.any (fun q => match q with | .xs rs' ts => decide (rs' = rs) && ks.all (fun c => ts.contains c) | _ => false) && decide (ks.length ≤ 1000) && nStar a && mtE nm cs N sc x a
  | sc, .mdf mx x, .Call (.Name f _) [a] [⟨some k, .Constant .none _ _, _⟩] _ => f == Str.ofString (Zh.mmName mx) && k == ("default" : Str) && glB sc f && nStar a && mtE nm cs N sc x a
  | sc, .lck i x, .ListComp el gs scope pos => mtE nm cs N sc x (.ListComp el gs scope pos)
  | sc, .lka x, .ListComp el gs scope pos => mtE nm cs N sc x (.ListComp el gs scope pos)
  | sc, .rep x, .Call (.Name f _) [a] [] _ => f == ("repr" : Str) && glB sc f && nm.any (fun q => decide (q = .gd)) && nStar a && mtE nm cs N sc x a
  | sc, .rev x, .Subscript a (.Slice none none (some (.UnaryOp .USub (.Constant (.int i) _ _) _)) _) _ => i == 1 && mtE nm cs N sc x a
  | sc, .stp x y, .Subscript a (.Slice none none (some b) _) _ => mtE nm cs N sc x a && mtE nm cs N sc y b
  | sc, .comp own t it c e, .ListComp el [⟨tg, ir, ifs, 0⟩] scope _ => L2.blkC N sc scope (ownP N own) && decide ((ownP N own).map (·.2) = own) && (slotsT t).all (fun i => own.contains i) && mtT N (tkB scope sc) t tg && mtI nm cs N sc it tg ir &&
      mtC nm cs N (L2.relS scope sc) c ifs && mtE nm cs N (L2.relS scope sc) e el && nSet ir
  | _, _, _ => false
termination_by structural _ e => e
def mtEs (nm : List Cn) (cs : List (Str × PV)) (N : List Str) : Scope → List Ex → List Expr → Bool
  | _, [], [] => true
  | sc, e :: es, a :: as => nStar a && mtE nm cs N sc e a && mtEs nm cs N sc es as
  | _, _, _ => false
termination_by structural _ e => e
def mtO (nm : List Cn) (cs : List (Str × PV)) (N : List Str) : Scope → Option Ex → Option Expr → Bool
  | _, none, none => true
  | sc, some e, some a => mtE nm cs N sc e a
  | _, _, _ => false
termination_by structural _ e => e
def mtC (nm : List Cn) (cs : List (Str × PV)) (N : List Str) : Scope → Option Ex → List Expr → Bool
  | _, none, [] => true
  | sc, some e, [a] => mtE nm cs N sc e a
  | _, _, _ => false
termination_by structural _ e => e
def mtI (nm : List Cn) (cs : List (Str × PV)) (N : List Str) : Scope → Ex → Expr → Expr → Bool
  | sc, .rng1 e, _, .Call (.Name x _) [a] [] _ => x == ("range" : Str) && glB sc x && nStar a && mtE nm cs N sc e a
  | sc, .rng2 e f, _, .Call (.Name x _) [a, b] [] _ => x == ("range" : Str) && glB sc x && nStar a && nStar b && mtE nm cs N sc e a && mtE nm cs N sc f b
  | sc, .rng3 e f g, _, .Call (.Name x _) [a, b, c] [] _ => x == ("range" : Str) && glB sc x && nStar a && nStar b && nStar c && mtE nm cs N sc e a && mtE nm cs N sc f b && mtE nm cs N sc g c
  | sc, .enum e, .Tuple _ _ _, .Call (.Name x _) [a] [] _ => x == ("enumerate" : Str) && glB sc x && nStar a && mtE nm cs N sc e a
  | sc, .rvs e, _, .Call (.Name x _) [a] [] _ => x == ("reversed" : Str) && glB sc x && nStar a && mtE nm cs N sc e a
  | sc, .zip e f, .Tuple _ _ _, .Call (.Name x _) [a, b] [] _ => x == ("zip" : Str) && glB sc x && nStar a && nStar b && mtE nm cs N sc e a && mtE nm cs N sc f b
  | sc, .zipn e f, .Name _ _, .Call (.Name x _) [a, b] [] _ => x == ("zip" : Str) && glB sc x && nStar a && nStar b && mtE nm cs N sc e a && mtE nm cs N sc f b
  | sc, .wlk e, _, a => mtE nm cs N sc e a
  | sc, .wlx e, _, a => mtE nm cs N sc e a
  | sc, .wld i, _, .Name x _ => decide (N[i]? = some x) && visB sc x && !(x == ("__debug__" : Str)) && !(x == ("__classdict__" : Str))
  | _, _, _, _ => false
termination_by structural _ e => e
end
end Z

/-! ZsL: soundness of expressions as a whole. -/
namespace Z
open PySem PyProof.Rows L2

/-- the built-in names that no def shadows -/
def blts : List String := ["len", "max", "min", "sum", "all", "any", "list", "tuple", "int", "isinstance", "range", "enumerate", "zip", "set", "bool", "str", "dict", "sorted", "repr", "reversed"]
def ConReady (X : Cx) (x : Str) (v : PV) : Prop := ∃ (u : Value) (t : V), X.mg x = some u ∧ RelV t u ∧ ∀ (ρ : List Addr) (H : Hp), Rep X.K ρ H v t
structure Good (X : Cx) (W : WX) (nm : List Cn) (cs : List (Str × PV)) (Γ : List Spec) : Prop where
  calm : X.calm = true
  nd : X.N.Nodup
  un : X.A.units + 65 < cLine
  tk : Takes X W
  bl : ∀ n ∈ blts, X.mg n = none
  fn : ∀ (i : Nat) (x : Cn), nm[i]? = some x → ∃ S, Γ[i]? = some S ∧ Rdy X x S
  cn : ∀ p ∈ cs, ConReady X p.1 p.2

section
variable {X : Cx} {W : WX} {nm : List Cn} {cs : List (Str × PV)} {Γ : List Spec}
theorem Good.blk (G : Good X W nm cs Γ) (s : Shared) (H : Hp) (scope : Scope) (cenv : PySem.Env) (fp : List Addr) : Good (X.blk s H scope cenv fp) (fun _ _ _ _ => False) nm cs Γ :=
  ⟨G.calm, G.nd, G.un, takes0, G.bl, G.fn, G.cn⟩
theorem gl_of {x : Str} (h : glB X.env.scope x = true) : Gl X x ∧ (x == ("__debug__" : Str)) = false := by
  unfold glB lkB at h
  rw [Bool.and_eq_true] at h
  have e : X.env.scope.names.lookup x = some .globalImplicit := of_decide_eq_true h.1
  exact ⟨e, by simpa using h.2⟩
theorem vis_of {x : Str} (h : visB X.env.scope x = true) : Vis X.env.scope x := by
  unfold visB lkB at h
  rw [Bool.or_eq_true, Bool.or_eq_true] at h
  rcases h with (h | h) | h
  · exact .inl (of_decide_eq_true h)
  · exact .inr (.inl (of_decide_eq_true h))
  · exact .inr (.inr (of_decide_eq_true h))
/-- what tk tells of names -/
def TkOk (X : Cx) (tk : Str → Bool) : Prop := ∀ x, tk x = true → Loc X.env.scope x ∧ (X.fn x = true ∨ X.env.scope.names.lookup x = some .local)
theorem tkB_ok (s : Shared) (H : Hp) (scope : Scope) (C : Addr) (cl : List (Str × Addr)) (fp : List Addr) : TkOk (X.blk s H scope (compEnvC scope cl C X.env) fp) (tkB scope X.env.scope) := by
  intro x h
  unfold tkB lkB at h
  rw [Bool.or_eq_true, Bool.and_eq_true] at h
  rcases h with h | ⟨h, h2⟩
  · have e : (L2.relS scope X.env.scope).names.lookup x = some .local := of_decide_eq_true h
    exact ⟨.inl e, .inr e⟩
  · have e : (L2.relS scope X.env.scope).names.lookup x = some .cell := of_decide_eq_true h
    refine ⟨.inr e, .inl ?_⟩
    have e2 : scope.names.lookup x = some .cell := of_decide_eq_true h2
    show (scope.names.lookup x == some .cell) = true
    rw [e2]
    rfl
theorem tkD_ok (h : ∀ x, X.fn x = true) : TkOk X (tkD X.env.scope) := by
  intro x e
  unfold tkD lkB at e
  rw [Bool.or_eq_true] at e
  rcases e with e | e
  · exact ⟨.inl (of_decide_eq_true e), .inl (h x)⟩
  · exact ⟨.inr (of_decide_eq_true e), .inl (h x)⟩
theorem assignEach_cons {e : Expr} (h : nStar e = true) (es : List Expr) (env : PySem.Env) : assignEach (e :: es) env = (false, assign e env) :: assignEach es env := by
  cases e <;> first | rfl | cases h
theorem mtT_star {N : List Str} {tk : Str → Bool} {t : Tg} {e : Expr} (h : mtT N tk t e = true) : nStar e = true := by
  cases t <;> cases e <;> first | rfl | cases h
theorem mtTs_each {N : List Str} {tk : Str → Bool} (env : PySem.Env) : ∀ {ts : List Tg} {es : List Expr}, mtTs N tk ts es = true → (assignEach es env).length = ts.length ∧ (assignEach es env).findIdx? (·.1) = none
  | [], [], _ => ⟨rfl, rfl⟩
  | t :: ts, e :: es, h => by
    unfold mtTs at h
    rw [Bool.and_eq_true] at h
    obtain ⟨h1, h2⟩ := mtTs_each env h.2
    rw [assignEach_cons (mtT_star h.1)]
    refine ⟨by rw [List.length_cons, List.length_cons, h1], ?_⟩
    rw [List.findIdx?_cons, h2]
    rfl
  | [], _ :: _, h => by cases h
  | _ :: _, [], h => by cases h
mutual
theorem sG {X : Cx} (hc : X.calm = true) (nd : X.N.Nodup) {tk : Str → Bool} (T : TkOk X tk) : ∀ (t : Tg) (e : Expr), mtT X.N tk t e = true → PG X e (LG X t)
  | .nm i, .Name x p, h => by
    unfold mtT at h
    rw [Bool.and_eq_true] at h
    obtain ⟨h1, h2⟩ := T x h.2
    exact zg_name nd (of_decide_eq_true h.1) h1 h2
  | .tp ts, .Tuple es k p, h => by
    unfold mtT at h
    obtain ⟨h1, h2⟩ := mtTs_each X.env h
    exact zg_tup hc (sGs hc nd T ts es h) h1 h2
  | .nm _, .BoolOp _ _ _, h => by cases h
  | .nm _, .NamedExpr _ _ _, h => by cases h
  | .nm _, .BinOp _ _ _ _, h => by cases h
  | .nm _, .UnaryOp _ _ _, h => by cases h
  | .nm _, .Lambda _ _ _ _, h => by cases h
  | .nm _, .IfExp _ _ _ _, h => by cases h
  | .nm _, .Dict _ _ _, h => by cases h
  | .nm _, .Set _ _ _, h => by cases h
  | .nm _, .ListComp _ _ _ _, h => by cases h
  | .nm _, .SetComp _ _ _ _, h => by cases h
  | .nm _, .DictComp _ _ _ _ _, h => by cases h
  | .nm _, .GeneratorExp _ _ _ _, h => by cases h
  | .nm _, .Await _ _, h => by cases h
  | .nm _, .Yield _ _, h => by cases h
  | .nm _, .YieldFrom _ _, h => by cases h
  | .nm _, .Compare _ _ _ _, h => by cases h
  | .nm _, .Call _ _ _ _, h => by cases h
  | .nm _, .FormattedValue _ _ _ _, h => by cases h
  | .nm _, .JoinedStr _ _, h => by cases h
  | .nm _, .Constant _ _ _, h => by cases h
  | .nm _, .Attribute _ _ _, h => by cases h
  | .nm _, .Subscript _ _ _, h => by cases h
  | .nm _, .Starred _ _, h => by cases h
  | .nm _, .List _ _, h => by cases h
  | .nm _, .Tuple _ _ _, h => by cases h
  | .nm _, .Slice _ _ _ _, h => by cases h
  | .tp _, .BoolOp _ _ _, h => by cases h
  | .tp _, .NamedExpr _ _ _, h => by cases h
  | .tp _, .BinOp _ _ _ _, h => by cases h
  | .tp _, .UnaryOp _ _ _, h => by cases h
  | .tp _, .Lambda _ _ _ _, h => by cases h
  | .tp _, .IfExp _ _ _ _, h => by cases h
  | .tp _, .Dict _ _ _, h => by cases h
  | .tp _, .Set _ _ _, h => by cases h
  | .tp _, .ListComp _ _ _ _, h => by cases h
  | .tp _, .SetComp _ _ _ _, h => by cases h
  | .tp _, .DictComp _ _ _ _ _, h => by cases h
  | .tp _, .GeneratorExp _ _ _ _, h => by cases h
  | .tp _, .Await _ _, h => by cases h
  | .tp _, .Yield _ _, h => by cases h
  | .tp _, .YieldFrom _ _, h => by cases h
  | .tp _, .Compare _ _ _ _, h => by cases h
  | .tp _, .Call _ _ _ _, h => by cases h
  | .tp _, .FormattedValue _ _ _ _, h => by cases h
  | .tp _, .JoinedStr _ _, h => by cases h
  | .tp _, .Constant _ _ _, h => by cases h
  | .tp _, .Attribute _ _ _, h => by cases h
  | .tp _, .Subscript _ _ _, h => by cases h
  | .tp _, .Starred _ _, h => by cases h
  | .tp _, .Name _ _, h => by cases h
  | .tp _, .List _ _, h => by cases h
  | .tp _, .Slice _ _ _ _, h => by cases h
theorem sGs {X : Cx} (hc : X.calm = true) (nd : X.N.Nodup) {tk : Str → Bool} (T : TkOk X tk) : ∀ (ts : List Tg) (es : List Expr), mtTs X.N tk ts es = true → PGs X es (LGs X ts)
  | [], [], _ => zgs_nil
  | t :: ts, e :: es, h => by
    unfold mtTs at h
    rw [Bool.and_eq_true] at h
    exact zgs_cons (sG hc nd T t e h.1) (sGs hc nd T ts es h.2) (by rw [assignEach_cons (mtT_star h.1)]; rfl)
  | [], _ :: _, h => by cases h
  | _ :: _, [], h => by cases h
end

theorem beq_str {x y : Str} (h : (x == y) = true) : x = y := by simpa using h
theorem mtEs_star {nm : List Cn} {cs : List (Str × PV)} {N : List Str} {sc : Scope} : ∀ {xs : List Ex} {es : List Expr}, mtEs nm cs N sc xs es = true → ∀ a ∈ es, nStar a = true
  | [], [], _ => fun a h => by cases h
  | x :: xs, e :: es, h => by
    unfold mtEs at h
    rw [Bool.and_eq_true, Bool.and_eq_true] at h
    intro a ha
    rcases List.mem_cons.mp ha with rfl | ha
    · exact h.1.1
    · exact mtEs_star h.2 a ha
  | [], _ :: _, h => by unfold mtEs at h; cases h
  | _ :: _, [], h => by unfold mtEs at h; cases h
theorem mtEs_nil {nm : List Cn} {cs : List (Str × PV)} {N : List Str} {sc : Scope} {xs : List Ex} {es : List Expr} (h : mtEs nm cs N sc xs es = true) (e : es = []) : xs = [] := by
  subst e
  cases xs with
  | nil => rfl
  | cons x xs => unfold mtEs at h; cases h

def SE (Γ : List Spec) (nm : List Cn) (cs : List (Str × PV)) (x : Ex) : Prop := ∀ (X : Cx) (W : WX) (e : Expr), Good X W nm cs Γ → mtE nm cs X.N X.env.scope x e = true → PE X e (LE X W (wE Γ x))
def ST (Γ : List Spec) (nm : List Cn) (cs : List (Str × PV)) (x : Ex) : Prop := ∀ (X : Cx) (W : WX) (e : Expr), Good X W nm cs Γ → mtE nm cs X.N X.env.scope x e = true → PT X e (LT X W (wT Γ x))
def SW (Γ : List Spec) (nm : List Cn) (cs : List (Str × PV)) (x : Ex) : Prop := ∀ (X : Cx) (W : WX) (op : BoolOp) (vs : List Expr) (pos : Pos), Good X W nm cs Γ → mtE nm cs X.N X.env.scope x (.BoolOp op vs pos) = true → PW X (.BoolOp op vs pos) (LT X W (wT Γ x))
def SEs (Γ : List Spec) (nm : List Cn) (cs : List (Str × PV)) (xs : List Ex) : Prop := ∀ (X : Cx) (W : WX) (es : List Expr), Good X W nm cs Γ → mtEs nm cs X.N X.env.scope xs es = true → PA X es (LA X W (wEs Γ xs))
def SO (Γ : List Spec) (nm : List Cn) (cs : List (Str × PV)) (x : Option Ex) : Prop := ∀ (X : Cx) (W : WX) (e : Option Expr), Good X W nm cs Γ → mtO nm cs X.N X.env.scope x e = true → PO X e (LO X W (wO Γ x))
def SI (Γ : List Spec) (nm : List Cn) (cs : List (Str × PV)) (x : Ex) : Prop := ∀ (X : Cx) (W : WX) (tg e : Expr), Good X W nm cs Γ → mtI nm cs X.N X.env.scope x tg e = true → PI X tg e (LI X W (wI Γ x))

/-- the plain tests: from the value -/
def tPlain : Expr → Bool
  | .BoolOp .. => false
  | .UnaryOp .Not .. => false
  | .IfExp .. => false
  | .Compare .. => false
  | _ => true
theorem isTrue_of {e : Expr} (h : tPlain e = true) (env : PySem.Env) (whole : Sem Value) : isTrue e env whole = (do let v ← whole; standAt e.pos; holding [v] (truthy v)) := by
  cases e with
  | UnaryOp op x p => cases op <;> first | rfl | cases h
  | _ => first | rfl | cases h

section
variable {x y z : Ex} {xs : List Ex}
theorem ok_var {i : Nat} : SE Γ nm cs (.var i) := fun X W e G h => by
  cases e with
  | Name x p =>
    have h : (decide (X.N[i]? = some x) && visB X.env.scope x && !(x == ("__debug__" : Str)) && !(x == ("__classdict__" : Str))) = true := h
    simp only [Bool.and_eq_true, Bool.not_eq_true'] at h
    obtain ⟨⟨⟨h1, h2⟩, h3⟩, h4⟩ := h
    exact ze_var (of_decide_eq_true h1) (vis_of h2) h3 h4 Γ
  | _ => cases h
theorem const_cases {k : Const → Bool} {e : Expr} (P : Expr → Prop) (h : (match e with | .Constant c _ _ => k c | _ => false) = true) (hp : ∀ c j p, k c = true → P (.Constant c j p)) : P e := by
  cases e with
  | Constant c j p => exact hp c j p h
  | _ => cases h
theorem ok_non : SE Γ nm cs .non := fun X W e G h => by
  cases e with
  | Constant c j p =>
    cases c with
    | none => exact ze_c pe_non (v := .non) (fun _ _ _ _ w => w) fun _ _ => rfl
    | _ => cases h
  | _ => cases h
theorem ok_bl {b : Bool} : SE Γ nm cs (.bl b) := fun X W e G h => by
  cases e with
  | Constant c j p =>
    cases c with
    | bool c =>
      have h : (b == c) = true := h
      obtain rfl : b = c := by simpa using h
      exact ze_c pe_bl (v := .bl b) (fun _ _ _ _ w => w) fun _ _ => rfl
    | _ => cases h
  | _ => cases h
theorem ok_int {b : Int} : SE Γ nm cs (.int b) := fun X W e G h => by
  cases e with
  | Constant c j p =>
    cases c with
    | int c =>
      have h : (b == c) = true := h
      obtain rfl : b = c := by simpa using h
      exact ze_c pe_int (v := .int b) (fun _ _ _ _ w => w) fun _ _ => rfl
    | _ => cases h
  | _ => cases h
theorem ok_str {b : Str} : SE Γ nm cs (.str b) := fun X W e G h => by
  cases e with
  | Constant c j p =>
    cases c with
    | str c =>
      have h : (b == c) = true := h
      obtain rfl := beq_str h
      exact ze_c pe_str (v := .str b) (fun _ _ _ _ w => w) fun _ _ => rfl
    | _ => cases h
  | _ => cases h
theorem ok_con {x : Str} {v : PV} : SE Γ nm cs (.con x v) := fun X W e G h => by
  cases e with
  | Name y p =>
    have h : (x == y && glB X.env.scope y && cs.any fun p => p.1 == y && p.2.same v) = true := h
    simp only [Bool.and_eq_true, List.any_eq_true] at h
    obtain ⟨⟨h1, h2⟩, ⟨y', v'⟩, hm, h3, h4⟩ := h
    obtain rfl := beq_str h3
    obtain rfl := PV.same_eq h4
    obtain ⟨u, t, hu, hr, hp⟩ := G.cn _ hm
    obtain ⟨g1, g2⟩ := gl_of h2
    exact ze_c (pe_glob g1 hu hr g2) (fun _ _ _ _ w => w) fun ρ H => hp ρ H
  | _ => cases h
theorem ok_bin {o : Operator} (hx : SE Γ nm cs x) (hy : SE Γ nm cs y) : SE Γ nm cs (.bin o x y) := fun X W e G h => by
  cases e with
  | BinOp l p r pos =>
    have h : (decide (o = p) && mtE nm cs X.N X.env.scope x l && mtE nm cs X.N X.env.scope y r) = true := h
    simp only [Bool.and_eq_true] at h
    obtain ⟨⟨h1, h2⟩, h3⟩ := h
    obtain rfl := of_decide_eq_true h1
    exact ze_bin (hx X W l G h2) (hy X W r G h3)
  | _ => cases h
theorem ok_neg (hx : SE Γ nm cs x) : SE Γ nm cs (.neg x) := fun X W e G h => by
  cases e with
  | UnaryOp op l p =>
    cases op with
    | USub => exact ze_neg (hx X W l G h)
    | _ => cases h
  | _ => cases h
theorem ok_not (hx : SE Γ nm cs x) : SE Γ nm cs (.not x) := fun X W e G h => by
  cases e with
  | UnaryOp op l p =>
    cases op with
    | Not => exact ze_not (hx X W l G h)
    | _ => cases h
  | _ => cases h
theorem ok_and (hx : SE Γ nm cs x) (hy : SE Γ nm cs y) : SE Γ nm cs (.and x y) := fun X W e G h => by
  cases e with
  | BoolOp op vs pos =>
    match op, vs, h with
    | .And, [a, b], h =>
      have h : (mtE nm cs X.N X.env.scope x a && mtE nm cs X.N X.env.scope y b) = true := h
      simp only [Bool.and_eq_true] at h
      exact ze_and (hx X W a G h.1) (ze_one (hy X W b G h.2))
    | .And, a :: b :: c :: r, h =>
      have h : (mtE nm cs X.N X.env.scope x a && mtE nm cs X.N X.env.scope y (.BoolOp .And (b :: c :: r) pos)) = true := h
      simp only [Bool.and_eq_true] at h
      exact ze_and (hx X W a G h.1) (hy X W _ G h.2)
    | .And, [], h => cases h
    | .And, [_], h => cases h
    | .Or, _, h => cases h
  | _ => cases h
theorem ok_or (hx : SE Γ nm cs x) (hy : SE Γ nm cs y) : SE Γ nm cs (.or x y) := fun X W e G h => by
  cases e with
  | BoolOp op vs pos =>
    match op, vs, h with
    | .Or, [a, b], h =>
      have h : (mtE nm cs X.N X.env.scope x a && mtE nm cs X.N X.env.scope y b) = true := h
      simp only [Bool.and_eq_true] at h
      exact ze_or (hx X W a G h.1) (ze_one (hy X W b G h.2))
    | .Or, a :: b :: c :: r, h =>
      have h : (mtE nm cs X.N X.env.scope x a && mtE nm cs X.N X.env.scope y (.BoolOp .Or (b :: c :: r) pos)) = true := h
      simp only [Bool.and_eq_true] at h
      exact ze_or (hx X W a G h.1) (hy X W _ G h.2)
    | .Or, [], h => cases h
    | .Or, [_], h => cases h
    | .And, _, h => cases h
  | _ => cases h
theorem ow_and (hx : ST Γ nm cs x) (hy : ST Γ nm cs y) (hw : SW Γ nm cs y) : SW Γ nm cs (.and x y) := fun X W op vs pos G h => by
  match op, vs, h with
  | .And, [a, b], h =>
    have h : (mtE nm cs X.N X.env.scope x a && mtE nm cs X.N X.env.scope y b) = true := h
    simp only [Bool.and_eq_true] at h
    exact zw_and (hx X W a G h.1) (pw_and1 (hy X W b G h.2))
  | .And, a :: b :: c :: r, h =>
    have h : (mtE nm cs X.N X.env.scope x a && mtE nm cs X.N X.env.scope y (.BoolOp .And (b :: c :: r) pos)) = true := h
    simp only [Bool.and_eq_true] at h
    exact zw_and (hx X W a G h.1) (hw X W _ _ _ G h.2)
  | .And, [], h => cases h
  | .And, [_], h => cases h
  | .Or, _, h => cases h
theorem ow_or (hx : ST Γ nm cs x) (hy : ST Γ nm cs y) (hw : SW Γ nm cs y) : SW Γ nm cs (.or x y) := fun X W op vs pos G h => by
  match op, vs, h with
  | .Or, [a, b], h =>
    have h : (mtE nm cs X.N X.env.scope x a && mtE nm cs X.N X.env.scope y b) = true := h
    simp only [Bool.and_eq_true] at h
    exact zw_or (hx X W a G h.1) (pw_or1 (hy X W b G h.2))
  | .Or, a :: b :: c :: r, h =>
    have h : (mtE nm cs X.N X.env.scope x a && mtE nm cs X.N X.env.scope y (.BoolOp .Or (b :: c :: r) pos)) = true := h
    simp only [Bool.and_eq_true] at h
    exact zw_or (hx X W a G h.1) (hw X W _ _ _ G h.2)
  | .Or, [], h => cases h
  | .Or, [_], h => cases h
  | .And, _, h => cases h
theorem ot_bool (hw : SW Γ nm cs x) (hb : ∀ N sc e, mtE nm cs N sc x e = true → ∃ op vs pos, e = .BoolOp op vs pos) : ST Γ nm cs x := fun X W e G h => by
  obtain ⟨op, vs, pos, rfl⟩ := hb _ _ _ h
  exact (hw X W op vs pos G h).pt
theorem and_bool : ∀ (N : List Str) (sc : Scope) (e : Expr), mtE nm cs N sc (.and x y) e = true → ∃ op vs pos, e = .BoolOp op vs pos := fun N sc e h => by
  cases e with
  | BoolOp op vs pos => exact ⟨op, vs, pos, rfl⟩
  | _ => cases h
theorem or_bool : ∀ (N : List Str) (sc : Scope) (e : Expr), mtE nm cs N sc (.or x y) e = true → ∃ op vs pos, e = .BoolOp op vs pos := fun N sc e h => by
  cases e with
  | BoolOp op vs pos => exact ⟨op, vs, pos, rfl⟩
  | _ => cases h
theorem ok_ife (hx : ST Γ nm cs x) (hy : SE Γ nm cs y) (hz : SE Γ nm cs z) : SE Γ nm cs (.ife x y z) := fun X W e G h => by
  cases e with
  | IfExp a b c pos =>
    have h : (mtE nm cs X.N X.env.scope x a && mtE nm cs X.N X.env.scope y b && mtE nm cs X.N X.env.scope z c) = true := h
    simp only [Bool.and_eq_true] at h
    exact ze_ife (hx X W a G h.1.1) (hy X W b G h.1.2) (hz X W c G h.2)
  | _ => cases h
theorem ot_ife (hx : ST Γ nm cs x) (hy : ST Γ nm cs y) (hz : ST Γ nm cs z) : ST Γ nm cs (.ife x y z) := fun X W e G h => by
  cases e with
  | IfExp a b c pos =>
    have h : (mtE nm cs X.N X.env.scope x a && mtE nm cs X.N X.env.scope y b && mtE nm cs X.N X.env.scope z c) = true := h
    simp only [Bool.and_eq_true] at h
    exact zt_ife (hx X W a G h.1.1) (hy X W b G h.1.2) (hz X W c G h.2)
  | _ => cases h
theorem ot_not (hx : ST Γ nm cs x) : ST Γ nm cs (.not x) := fun X W e G h => by
  cases e with
  | UnaryOp op l p =>
    cases op with
    | Not => exact zt_not (hx X W l G h)
    | _ => cases h
  | _ => cases h
theorem cmp_inv {o : CmpOp} {N : List Str} {sc : Scope} {e : Expr} (h : mtE nm cs N sc (.cmp o x y) e = true) : ∃ l r pos, e = .Compare l [o] [r] pos ∧ nSet r = true ∧ mtE nm cs N sc x l = true ∧ mtE nm cs N sc y r = true := by
  cases e with
  | Compare l ops rs pos =>
    match ops, rs, h with
    | [p], [r], h =>
      have h : (decide (o = p) && nSet r && mtE nm cs N sc x l && mtE nm cs N sc y r) = true := h
      simp only [Bool.and_eq_true] at h
      obtain rfl := of_decide_eq_true h.1.1.1
      exact ⟨l, r, pos, rfl, h.1.1.2, h.1.2, h.2⟩
    | [], _, h => cases h
    | [_], [], h => cases h
    | [_], _ :: _ :: _, h => cases h
    | _ :: _ :: _, _, h => cases h
  | _ => cases h
theorem ok_cmp {o : CmpOp} (hx : SE Γ nm cs x) (hy : SE Γ nm cs y) : SE Γ nm cs (.cmp o x y) := fun X W e G h => by
  obtain ⟨l, r, pos, rfl, h1, h2, h3⟩ := cmp_inv h
  exact ze_cmp G.un (hx X W l G h2) (hy X W r G h3) (marks_of h1)
theorem ot_cmp {o : CmpOp} (hx : SE Γ nm cs x) (hy : SE Γ nm cs y) : ST Γ nm cs (.cmp o x y) := fun X W e G h => by
  obtain ⟨l, r, pos, rfl, h1, h2, h3⟩ := cmp_inv h
  exact zt_cmp G.un (hx X W l G h2) (hy X W r G h3) (marks_of h1)
theorem chn_inv {o o' : CmpOp} {N : List Str} {sc : Scope} {e : Expr} (h : mtE nm cs N sc (.chn o o' x y z) e = true) : ∃ l r t pos, e = .Compare l [o, o'] [r, t] pos ∧ nSet t = true ∧ mtE nm cs N sc x l = true ∧ mtE nm cs N sc y r = true ∧ mtE nm cs N sc z t = true := by
  cases e with
  | Compare l ops rs pos =>
    match ops, rs, h with
    | [p, p'], [r, t], h =>
      have h : (decide (o = p) && decide (o' = p') && nSet t && mtE nm cs N sc x l && mtE nm cs N sc y r && mtE nm cs N sc z t) = true := h
      simp only [Bool.and_eq_true] at h
      obtain rfl := of_decide_eq_true h.1.1.1.1.1
      obtain rfl := of_decide_eq_true h.1.1.1.1.2
      exact ⟨l, r, t, pos, rfl, h.1.1.1.2, h.1.1.2, h.1.2, h.2⟩
    | [], _, h => cases h
    | [_], _, h => cases h
    | [_, _], [], h => cases h
    | [_, _], [_], h => cases h
    | [_, _], _ :: _ :: _ :: _, h => cases h
    | _ :: _ :: _ :: _, _, h => cases h
  | _ => cases h
theorem ok_chn {o o' : CmpOp} (hx : SE Γ nm cs x) (hy : SE Γ nm cs y) (hz : SE Γ nm cs z) : SE Γ nm cs (.chn o o' x y z) := fun X W e G h => by
  obtain ⟨l, r, t, pos, rfl, h1, h2, h3, h4⟩ := chn_inv h
  exact ze_chn G.un (hx X W l G h2) (hy X W r G h3) (hz X W t G h4) (marks2_of h1)
theorem ot_chn {o o' : CmpOp} (hx : SE Γ nm cs x) (hy : SE Γ nm cs y) (hz : SE Γ nm cs z) : ST Γ nm cs (.chn o o' x y z) := fun X W e G h => by
  obtain ⟨l, r, t, pos, rfl, h1, h2, h3, h4⟩ := chn_inv h
  exact zt_chn G.un (hx X W l G h2) (hy X W r G h3) (hz X W t G h4) (marks2_of h1)
theorem chn3_inv {v : Ex} {o o' o'' : CmpOp} {N : List Str} {sc : Scope} {e : Expr} (h : mtE nm cs N sc (.chn3 o o' o'' x y z v) e = true) : ∃ l r t u pos, e = .Compare l [o, o', o''] [r, t, u] pos ∧ nSet u = true ∧ mtE nm cs N sc x l = true ∧ mtE nm cs N sc y r = true ∧ mtE nm cs N sc z t = true ∧ mtE nm cs N sc v u = true := by
  cases e with
  | Compare l ops rs pos =>
    match ops, rs, h with
    | [p, p', p''], [r, t, u], h =>
      have h : (decide (o = p) && decide (o' = p') && decide (o'' = p'') && nSet u && mtE nm cs N sc x l && mtE nm cs N sc y r && mtE nm cs N sc z t && mtE nm cs N sc v u) = true := h
      simp only [Bool.and_eq_true] at h
      obtain ⟨⟨⟨⟨⟨⟨⟨h1, h2⟩, h3⟩, h4⟩, h5⟩, h6⟩, h7⟩, h8⟩ := h
      obtain rfl := of_decide_eq_true h1
      obtain rfl := of_decide_eq_true h2
      obtain rfl := of_decide_eq_true h3
      exact ⟨l, r, t, u, pos, rfl, h4, h5, h6, h7, h8⟩
    | [], _, h => cases h
    | [_], _, h => cases h
    | [_, _], _, h => cases h
    | [_, _, _], [], h => cases h
    | [_, _, _], [_], h => cases h
    | [_, _, _], [_, _], h => cases h
    | [_, _, _], _ :: _ :: _ :: _ :: _, h => cases h
    | _ :: _ :: _ :: _ :: _, _, h => cases h
  | _ => cases h
theorem ok_chn3 {v : Ex} {o o' o'' : CmpOp} (hx : SE Γ nm cs x) (hy : SE Γ nm cs y) (hz : SE Γ nm cs z) (hv : SE Γ nm cs v) : SE Γ nm cs (.chn3 o o' o'' x y z v) := fun X W e G h => by
  obtain ⟨l, r, t, u, pos, rfl, h1, h2, h3, h4, h5⟩ := chn3_inv h
  exact ze_chn3 G.un (hx X W l G h2) (hy X W r G h3) (hz X W t G h4) (hv X W u G h5) (marks3_of h1)
theorem ot_chn3 {v : Ex} {o o' o'' : CmpOp} (hx : SE Γ nm cs x) (hy : SE Γ nm cs y) (hz : SE Γ nm cs z) (hv : SE Γ nm cs v) : ST Γ nm cs (.chn3 o o' o'' x y z v) := fun X W e G h => by
  obtain ⟨l, r, t, u, pos, rfl, h1, h2, h3, h4, h5⟩ := chn3_inv h
  exact zt_chn3 G.un (hx X W l G h2) (hy X W r G h3) (hz X W t G h4) (hv X W u G h5) (marks3_of h1)
theorem ok_tup (hs : SEs Γ nm cs xs) : SE Γ nm cs (.tup xs) := fun X W e G h => by
  cases e with
  | Tuple es k pos => exact ze_tup (hs X W es G h)
  | _ => cases h
theorem ok_xtp (hs : SEs Γ nm cs xs) : SE Γ nm cs (.xtp xs) := fun X W e G h => by
  cases e with
  | Tuple es k pos => exact ze_xtp (hs X W es G h)
  | _ => cases h
theorem ok_dg1 (hx : SE Γ nm cs x) (hy : SE Γ nm cs y) : SE Γ nm cs (.dg1 x y) := fun X W e G h => by
  cases e with
  | Call f as ks pos =>
    cases f with
    | Attribute o n apos =>
      match as, ks, h with
      | [b], [], h =>
        have h : (n == ("get" : Str) && attrOk o && apos.endLine == pos.line && nStar b && mtE nm cs X.N X.env.scope x o && mtE nm cs X.N X.env.scope y b) = true := h
        simp only [Bool.and_eq_true] at h
        obtain ⟨⟨⟨⟨⟨h1, h2⟩, h3⟩, h4⟩, h5⟩, h6⟩ := h
        obtain rfl := beq_str h1
        exact ze_dg1 G.un (hx X W o G h5) (hy X W b G h6) (attr_of h2 _ _ _) h3 fun r => star_of h4 r X.env
    | _ => cases h
  | _ => cases h
theorem ok_dg2 (hx : SE Γ nm cs x) (hy : SE Γ nm cs y) (hz : SE Γ nm cs z) : SE Γ nm cs (.dg2 x y z) := fun X W e G h => by
  cases e with
  | Call f as ks pos =>
    cases f with
    | Attribute o n apos =>
      match as, ks, h with
      | [b, c], [], h =>
        have h : (n == ("get" : Str) && attrOk o && apos.endLine == pos.line && nStar b && nStar c && mtE nm cs X.N X.env.scope x o && mtE nm cs X.N X.env.scope y b && mtE nm cs X.N X.env.scope z c) = true := h
        simp only [Bool.and_eq_true] at h
        obtain ⟨⟨⟨⟨⟨⟨⟨h1, h2⟩, h3⟩, h4⟩, h4'⟩, h5⟩, h6⟩, h7⟩ := h
        obtain rfl := beq_str h1
        exact ze_dg2 G.un (hx X W o G h5) (hy X W b G h6) (hz X W c G h7) (attr_of h2 _ _ _) h3 (fun r => star_of h4 r X.env) fun r => star_of h4' r X.env
    | _ => cases h
  | _ => cases h
theorem ok_sm {m : SM} (hx : SE Γ nm cs x) (hy : SE Γ nm cs y) : SE Γ nm cs (.sm m x y) := fun X W e G h => by
  cases e with
  | Call f as ks pos =>
    cases f with
    | Attribute o n apos =>
      match as, ks, h with
      | [b], [], h =>
        have h : (n == Str.ofString (smName m) && attrOk o && apos.endLine == pos.line && nStar b && mtE nm cs X.N X.env.scope x o && mtE nm cs X.N X.env.scope y b) = true := h
        simp only [Bool.and_eq_true] at h
        obtain ⟨⟨⟨⟨⟨h1, h2⟩, h3⟩, h4⟩, h5⟩, h6⟩ := h
        obtain rfl := beq_str h1
        cases m with
        | join => exact ze_smG PySem.F.slot_str_join PySem.F.type_str_join mt_join (fun _ _ _ _ _ _ _ _ _ => so_join) (hx X W o G h5) (hy X W b G h6) (attr_of h2 _ _ _) h3 fun r => star_of h4 r X.env
        | index => exact ze_smG PySem.F.slot_str_index PySem.F.type_str_index mt_sindex (fun _ _ _ _ _ _ _ _ _ => so_index) (hx X W o G h5) (hy X W b G h6) (attr_of h2 _ _ _) h3 fun r => star_of h4 r X.env
    | _ => cases h
  | _ => cases h
theorem pps_of {X : Cx} {W : WX} {pos : Pos} (G : Good X W nm cs Γ) : ∀ {ks : List At} {xs : List Ex} {keys : List (Option Expr)} {es : List Expr}, ks.length = xs.length → mtK ks keys = true → mtEs nm cs X.N X.env.scope xs es = true → (∀ x ∈ xs, SE Γ nm cs x) →
    PPs X pos keys es (trsOf X W Γ ks xs) ∧ keys.length = ks.length ∧ keys.all (·.isSome) = true ∧ keys.length = es.length
  | [], [], [], [], _, _, _, _ => ⟨pps_nil, rfl, rfl, rfl⟩
  | [], [], [], _ :: _, _, _, h, _ => nomatch h
  | [], [], _ :: _, _, _, h, _, _ => nomatch h
  | [], _ :: _, _, _, e, _, _, _ => nomatch e
  | _ :: _, [], _, _, e, _, _, _ => nomatch e
  | k :: _, _ :: _, [], _, _, h, _, _ => by cases k <;> cases h
  | _ :: _, _ :: _, _ :: _, [], _, _, h, _ => nomatch h
  | k :: ks, x :: xs, y :: keys, e :: es, l, h1, h2, hs => by
    have h2 : (nStar e && mtE nm cs X.N X.env.scope x e && mtEs nm cs X.N X.env.scope xs es) = true := h2
    simp only [Bool.and_eq_true] at h2
    cases k with
    | inr k =>
      match y, h1 with
      | some (.Constant (.str z) j p), h1 =>
        have h1 : (z == k && mtK ks keys) = true := h1
        simp only [Bool.and_eq_true] at h1
        obtain rfl := beq_str h1.1
        obtain ⟨q1, q2, q3, q4⟩ := pps_of G (pos := pos) (by simpa using l) h1.2 h2.2 fun w hw => hs w (List.mem_cons_of_mem _ hw)
        exact ⟨pps_cons pe_str (hs x List.mem_cons_self X W e G h2.1.2) q1, by rw [List.length_cons, List.length_cons, q2], by rw [List.all_cons, q3]; rfl, by rw [List.length_cons, List.length_cons, q4]⟩
    | inl k =>
      match y, h1 with
      | some (.Constant (.int z) j p), h1 =>
        have h1 : (decide (z = k) && mtK ks keys) = true := h1
        simp only [Bool.and_eq_true, decide_eq_true_eq] at h1
        obtain rfl := h1.1
        obtain ⟨q1, q2, q3, q4⟩ := pps_of G (pos := pos) (by simpa using l) h1.2 h2.2 fun w hw => hs w (List.mem_cons_of_mem _ hw)
        exact ⟨pps_cons pe_int (hs x List.mem_cons_self X W e G h2.1.2) q1, by rw [List.length_cons, List.length_cons, q2], by rw [List.all_cons, q3]; rfl, by rw [List.length_cons, List.length_cons, q4]⟩
theorem ok_dcd {ks : List At} (hs : ∀ x ∈ xs, SE Γ nm cs x) : SE Γ nm cs (.dcd ks xs) := fun X W e G h => by
  cases e with
  | Dict keys es pos =>
    have h : (mtK ks keys && decide (1 ≤ ks.length ∧ ks.length ≤ 15 ∧ ks.length = xs.length) && mtEs nm cs X.N X.env.scope xs es) = true := h
    simp only [Bool.and_eq_true, decide_eq_true_eq] at h
    obtain ⟨⟨h1, h2, h3, h4⟩, h5⟩ := h
    obtain ⟨q1, q2, q3, q4⟩ := pps_of G (pos := pos) h4 h1 h5 hs
    exact ze_dcd h4 h2 h3 q2 q3 q4 q1
  | _ => cases h
theorem ok_lst (hs : SEs Γ nm cs xs) : SE Γ nm cs (.lst xs) := fun X W e G h => by
  cases e with
  | List es pos => exact ze_lst (hs X W es G h)
  | _ => cases h
theorem ok_dct : SE Γ nm cs .dct := fun X W e G h => by
  cases e with
  | Dict ks vs pos =>
    match ks, vs, h with
    | [], [], h => exact ze_dct
    | _ :: _, _, h => cases h
    | [], _ :: _, h => cases h
  | _ => cases h
theorem ok_idx (hx : SE Γ nm cs x) (hy : SE Γ nm cs y) : SE Γ nm cs (.idx x y) := fun X W e G h => by
  cases e with
  | Subscript l j pos =>
    have h : (nSlice j && mtE nm cs X.N X.env.scope x l && mtE nm cs X.N X.env.scope y j) = true := h
    simp only [Bool.and_eq_true] at h
    exact ze_idx (by have := G.un; omega) (hx X W l G h.1.2) (hy X W j G h.2) (plain_ix h.1.1)
  | _ => cases h
theorem ok_slc {lo hi : Option Ex} (hx : SE Γ nm cs x) (hl : SO Γ nm cs lo) (hh : SO Γ nm cs hi) : SE Γ nm cs (.slc x lo hi) := fun X W e G h => by
  cases e with
  | Subscript l j pos =>
    cases j with
    | Slice p q st pos2 =>
      cases st with
      | none =>
        have h : (mtE nm cs X.N X.env.scope x l && mtO nm cs X.N X.env.scope lo p && mtO nm cs X.N X.env.scope hi q) = true := h
        simp only [Bool.and_eq_true] at h
        exact ze_slc (hx X W l G h.1.1) (hl X W p G h.1.2) (hh X W q G h.2)
      | some _ => cases h
    | _ => cases h
  | _ => cases h
theorem ok_call {i : Nat} (hs : SEs Γ nm cs xs) : SE Γ nm cs (.call i xs) := fun X W e G h => by
  cases e with
  | Call f as ks pos =>
    cases f with
    | Name g p =>
      cases ks with
      | nil =>
        have h : (decide (nm[i]? = some (.fn g)) && glB X.env.scope g && mtEs nm cs X.N X.env.scope xs as) = true := h
        simp only [Bool.and_eq_true] at h
        obtain ⟨⟨h1, h2⟩, h3⟩ := h
        obtain ⟨S, hS, fr⟩ := G.fn i (.fn g) (of_decide_eq_true h1)
        obtain ⟨g1, g2⟩ := gl_of h2
        exact ze_call fr hS G.tk g1 g2 (hs X W as G h3) (mtEs_nil h3) fun a ha r => star_of (mtEs_star h3 a ha) r X.env
      | cons _ _ => cases h
    | _ => cases h
  | _ => cases h
theorem any_cl {nm : List Cn} {c f : Str} (h : nm.any (fun q => match q with | .cl c' fs => c' == c && fs.contains f | _ => false) = true) : ∃ (i : Nat) (fs : List Str), nm[i]? = some (.cl c fs) ∧ f ∈ fs := by
  obtain ⟨q, hq, hc⟩ := List.any_eq_true.mp h
  obtain ⟨i, hi, rfl⟩ := List.mem_iff_getElem.mp hq
  refine ⟨i, ?_⟩
  have e := List.getElem?_eq_getElem hi
  generalize nm[i] = q at hc e
  cases q with
  | cl c' fs =>
    have hc : (c' == c && fs.contains f) = true := hc
    rw [Bool.and_eq_true] at hc
    obtain rfl : c' = c := by simpa using hc.1
    exact ⟨fs, e, by simpa using hc.2⟩
  | _ => cases hc
theorem mcall_eq {o : Expr} {name : Str} {apos pos : Pos} {env : PySem.Env} {ov : Value} {n : Nat} {args : List (Bool × Sem Value)} {kws : List (Option Str × Sem Value)} (hf : methodCallForm n args kws = true) (hl : (apos.endLine == pos.line) = true) :
    methodCall o name apos pos env ov n args kws = (do
      let (f, first) ← holding [ov] (getMethod ov name (do return (← importBound o env).getD true))
      callWith pos f first args kws) := by
  unfold methodCall methodCallPos calleeOf
  rw [hf, hl]
  rfl
theorem form_of {es : List Expr} {env : PySem.Env} {pos : Pos} (hn : es.length < 30) (h : ∀ a ∈ es, ∀ r, starEach (a :: r) env = (false, eval a env) :: starEach r env) : methodCallForm (es.length + ([] : List Keyword).length) (backTo pos (starEach es env)) (backToKw pos (keywordEach [] env)) = true := by
  unfold methodCallForm
  have p := star_plain (pos := pos) h
  have q : (backTo pos (starEach es env)).all (!·.1) = true := by
    rw [List.all_eq_not_any_not]
    simpa using p
  rw [q]
  show (true && true && decide (es.length + 0 + 0 < 30)) = true
  simpa using hn
theorem ok_fld {x : Ex} {c f : Str} (hx : SE Γ nm cs x) : SE Γ nm cs (.fld x c f) := fun X W e G h => by
  cases e with
  | Attribute a g pos =>
    cases a with
    | Name y p =>
      have h : (g == f && nm.any (fun q => match q with | .cl c' fs => c' == c && fs.contains f | _ => false) && mtE nm cs X.N X.env.scope x (.Name y p)) = true := h
      simp only [Bool.and_eq_true] at h
      obtain ⟨⟨h1, h2⟩, h3⟩ := h
      obtain rfl : g = f := by simpa using h1
      obtain ⟨i, fl, e, hf⟩ := any_cl h2
      obtain ⟨S, _, cr⟩ := G.fn i _ e
      exact ze_fld cr hf (hx X W _ G h3) (by rfl)
    | _ => cases h
  | _ => cases h
theorem ok_fldx {x : Ex} {c f : Str} (hx : SE Γ nm cs x) : SE Γ nm cs (.fldx x c f) := fun X W e G h => by
  cases e with
  | Attribute a g pos =>
    have h : (g == f && nm.any (fun q => decide (q = .xf c f)) && attrOk a && mtE nm cs X.N X.env.scope x a) = true := h
    simp only [Bool.and_eq_true] at h
    obtain ⟨⟨⟨h1, h2⟩, h3⟩, h4⟩ := h
    obtain rfl := beq_str h1
    obtain ⟨q, hq, e⟩ := List.any_eq_true.mp h2
    have e := of_decide_eq_true e
    subst e
    obtain ⟨k, hk⟩ := List.mem_iff_getElem?.mp hq
    obtain ⟨S, _, xr⟩ := G.fn k _ hk
    exact ze_fldx xr (hx X W a G h4) (attr_of h3 _ _ _)
  | _ => cases h
theorem ok_mth {i : Nat} {c m : Str} {x : Ex} (hx : SE Γ nm cs x) (hs : SEs Γ nm cs xs) : SE Γ nm cs (.mth i c m x xs) := fun X W e G h => by
  cases e with
  | Call f as ks pos =>
    cases f with
    | Attribute a g apos =>
      cases a with
      | Name y p =>
        cases ks with
        | nil =>
          have h : (g == m && decide (as.length < 30) && apos.endLine == pos.line && decide (nm[i]? = some (.me c m)) && mtE nm cs X.N X.env.scope x (.Name y p) && mtEs nm cs X.N X.env.scope xs as) = true := h
          simp only [Bool.and_eq_true] at h
          obtain ⟨⟨⟨⟨⟨h1, h8⟩, h9⟩, h2⟩, h3⟩, h4⟩ := h
          obtain rfl : g = m := by simpa using h1
          obtain ⟨S, hS, fr⟩ := G.fn i _ (of_decide_eq_true h2)
          have A := hs X W as G h4
          have n0 := mtEs_nil h4
          have st := fun a ha r => star_of (mtEs_star h4 a ha) r X.env
          exact ze_mth (pl := (do return (← importBound (.Name y p) X.env).getD true)) fr hS G.tk (hx X W _ G h3) A n0 st (by
            rw [arm_eval_Call, attr_of (e := .Name y p) rfl]
            simp only [mcall_eq (form_of (of_decide_eq_true h8) st) h9])
        | cons _ _ => cases h
      | _ => cases h
    | _ => cases h
  | _ => cases h
theorem ok_new {i : Nat} {c : Str} (hs : SEs Γ nm cs xs) : SE Γ nm cs (.new i c xs) := fun X W e G h => by
  cases e with
  | Call f as ks pos =>
    cases f with
    | Name g p =>
      cases ks with
      | nil =>
        have h : (g == c && decide (nm[i]? = some (.mk c)) && glB X.env.scope g && mtEs nm cs X.N X.env.scope xs as) = true := h
        simp only [Bool.and_eq_true] at h
        obtain ⟨⟨⟨h0, h1⟩, h2⟩, h3⟩ := h
        obtain rfl : g = c := by simpa using h0
        obtain ⟨S, hS, fr⟩ := G.fn i _ (of_decide_eq_true h1)
        obtain ⟨g1, g2⟩ := gl_of h2
        exact ze_new fr hS G.tk g1 g2 (hs X W as G h3) (mtEs_nil h3) fun a ha r => star_of (mtEs_star h3 a ha) r X.env
      | cons _ _ => cases h
    | _ => cases h
  | _ => cases h
end
end
end Z

/-! ZsM: soundness of expressions as a whole, second part. -/
namespace Z
open PySem PyProof.Rows L2

section
variable {nm : List Cn} {cs : List (Str × PV)} {Γ : List Spec} {x y z : Ex} {xs : List Ex}
theorem bi_inv {b : BI} {N : List Str} {sc : Scope} {e : Expr} (h : mtE nm cs N sc (.bi b xs) e = true) : ∃ f p as pos gs bs, e = .Call (.Name f p) as [] pos ∧ biForm b f as = some (gs, bs) ∧ (∀ g ∈ gs, glB sc g = true) ∧ mtEs nm cs N sc xs bs = true := by
  cases e with
  | Call f as ks pos =>
    cases f with
    | Name g p =>
      cases ks with
      | nil =>
        have h : (match biForm b g as with | some (gs, bs) => gs.all (glB sc) && mtEs nm cs N sc xs bs | none => false) = true := h
        cases e : biForm b g as with
        | none => rw [e] at h; cases h
        | some q =>
          obtain ⟨gs, bs⟩ := q
          rw [e] at h
          have h : (gs.all (glB sc) && mtEs nm cs N sc xs bs) = true := h
          rw [Bool.and_eq_true, List.all_eq_true] at h
          exact ⟨g, p, as, pos, gs, bs, rfl, e, h.1, h.2⟩
      | cons _ _ => cases h
    | _ => cases h
  | _ => cases h
theorem nested_inv {as : List Expr} {α : Type} {k : Str → List Expr → Option α} {r : α} (h : (match as with | [.Call (.Name y _) bs [] _] => k y bs | _ => none) = some r) : ∃ y p bs q, as = [.Call (.Name y p) bs [] q] ∧ k y bs = some r := by
  match as, h with
  | [.Call (.Name y p) bs [] q], h => exact ⟨y, p, bs, q, rfl, h⟩
theorem if_some {α : Type} {c : Bool} {a r : α} (h : (if c = true then some a else none) = some r) : c = true ∧ a = r := by
  cases c with
  | true => exact ⟨rfl, by simpa using h⟩
  | false => simp at h
theorem one_of {as : List Expr} (h : decide (as.length = 1) = true) : ∃ a, as = [a] := by
  match as, of_decide_eq_true h with
  | [a], _ => exact ⟨a, rfl⟩
theorem mtEs_one {N : List Str} {sc : Scope} {a : Expr} (h : mtEs nm cs N sc xs [a] = true) : ∃ x, xs = [x] ∧ nStar a = true ∧ mtE nm cs N sc x a = true := by
  match xs, h with
  | [x], h =>
    have h : (nStar a && mtE nm cs N sc x a && true) = true := h
    simp only [Bool.and_eq_true] at h
    exact ⟨x, rfl, h.1.1, h.1.2⟩
  | [], h => cases h
  | _ :: _ :: _, h =>
    have h : (nStar a && mtE nm cs N sc _ a && false) = true := h
    simp at h
theorem ok_bi1 {b : BI} {n : String} {ty : Bool} (hb : biName b = some (n, ty)) (mem : n ∈ blts) (hs : SEs Γ nm cs xs) : SE Γ nm cs (.bi b xs) := fun X W e G h => by
  obtain ⟨f, p, as, pos, gs, bs, rfl, k, hg, hm⟩ := bi_inv h
  have k : (if f == Str.ofString n && !as.isEmpty then some ([f], as) else none) = some (gs, bs) := by
    cases b <;> cases hb <;> exact k
  obtain ⟨k1, k2⟩ := if_some k
  cases k2
  rw [Bool.and_eq_true] at k1
  obtain rfl := beq_str k1.1
  cases as with
  | nil => cases k1.2
  | cons a r => exact ze_bi hb G.calm G.un (gl_of (hg _ (by simp))).1 (G.bl n mem) (hs X W _ G hm) fun a ha r => star_of (mtEs_star hm a ha) r X.env
theorem ok_tuple (hx : ∀ x, xs = [x] → SE Γ nm cs x) : SE Γ nm cs (.bi .tuple xs) := fun X W e G h => by
  obtain ⟨f, p, as, pos, gs, bs, rfl, k, hg, hm⟩ := bi_inv h
  obtain ⟨k1, k2⟩ := if_some k
  cases k2
  rw [Bool.and_eq_true] at k1
  obtain rfl := beq_str k1.1
  obtain ⟨a, rfl⟩ := one_of k1.2
  obtain ⟨x, rfl, h1, h2⟩ := mtEs_one hm
  exact ze_tuple (gl_of (hg _ (by simp))).1 (G.bl "tuple" (by decide)) (hx x rfl X W a G h2) (star_of h1 _ _)
theorem ok_xtuple (hx : ∀ x, xs = [x] → SE Γ nm cs x) : SE Γ nm cs (.bi .xtuple xs) := fun X W e G h => by
  obtain ⟨f, p, as, pos, gs, bs, rfl, k, hg, hm⟩ := bi_inv h
  obtain ⟨k1, k2⟩ := if_some k
  cases k2
  rw [Bool.and_eq_true] at k1
  obtain rfl := beq_str k1.1
  obtain ⟨a, rfl⟩ := one_of k1.2
  obtain ⟨x, rfl, h1, h2⟩ := mtEs_one hm
  exact ze_xtuple G.calm (gl_of (hg _ (by simp))).1 (G.bl "tuple" (by decide)) (hx x rfl X W a G h2) (star_of h1 _ _)
theorem ok_lenkeys (hx : ∀ x, xs = [x] → SE Γ nm cs x) : SE Γ nm cs (.bi .lenkeys xs) := fun X W e G h => by
  obtain ⟨f, p, as, pos, gs, bs, rfl, k, hg, hm⟩ := bi_inv h
  obtain ⟨g, p2, cs, q, rfl, k⟩ := nested_inv k
  obtain ⟨k1, k2⟩ := if_some k
  cases k2
  rw [Bool.and_eq_true, Bool.and_eq_true] at k1
  obtain rfl := beq_str k1.1.1
  obtain rfl := beq_str k1.1.2
  obtain ⟨a, rfl⟩ := one_of k1.2
  obtain ⟨x, rfl, h1, h2⟩ := mtEs_one hm
  exact ze_lenkeys G.calm (gl_of (hg _ (by simp))).1 (G.bl "len" (by decide)) (gl_of (hg _ (by simp))).1 (G.bl "set" (by decide)) (hx x rfl X W a G h2) (star_of h1 _ _)
theorem ok_lenset (hx : ∀ x, xs = [x] → SE Γ nm cs x) : SE Γ nm cs (.bi .lenset xs) := fun X W e G h => by
  obtain ⟨f, p, as, pos, gs, bs, rfl, k, hg, hm⟩ := bi_inv h
  obtain ⟨g, p2, cs, q, rfl, k⟩ := nested_inv k
  obtain ⟨k1, k2⟩ := if_some k
  cases k2
  rw [Bool.and_eq_true, Bool.and_eq_true] at k1
  obtain rfl := beq_str k1.1.1
  obtain rfl := beq_str k1.1.2
  obtain ⟨a, rfl⟩ := one_of k1.2
  obtain ⟨x, rfl, h1, h2⟩ := mtEs_one hm
  exact ze_lenset G.calm (gl_of (hg _ (by simp))).1 (G.bl "len" (by decide)) (gl_of (hg _ (by simp))).1 (G.bl "set" (by decide)) (hx x rfl X W a G h2) (star_of h1 _ _)
theorem ok_dictenum (hx : ∀ x, xs = [x] → SE Γ nm cs x) : SE Γ nm cs (.bi .dictenum xs) := fun X W e G h => by
  obtain ⟨f, p, as, pos, gs, bs, rfl, k, hg, hm⟩ := bi_inv h
  obtain ⟨g, p2, cs, q, rfl, k⟩ := nested_inv k
  obtain ⟨k1, k2⟩ := if_some k
  cases k2
  rw [Bool.and_eq_true, Bool.and_eq_true] at k1
  obtain rfl := beq_str k1.1.1
  obtain rfl := beq_str k1.1.2
  obtain ⟨a, rfl⟩ := one_of k1.2
  obtain ⟨x, rfl, h1, h2⟩ := mtEs_one hm
  exact ze_dictenum G.calm (gl_of (hg _ (by simp))).1 (G.bl "dict" (by decide)) (gl_of (hg _ (by simp))).1 (G.bl "enumerate" (by decide)) (hx x rfl X W a G h2) (star_of h1 _ _)
theorem ok_sortedset (hx : ∀ x, xs = [x] → SE Γ nm cs x) : SE Γ nm cs (.bi .sortedset xs) := fun X W e G h => by
  obtain ⟨f, p, as, pos, gs, bs, rfl, k, hg, hm⟩ := bi_inv h
  obtain ⟨g, p2, cs, q, rfl, k⟩ := nested_inv k
  obtain ⟨k1, k2⟩ := if_some k
  cases k2
  rw [Bool.and_eq_true, Bool.and_eq_true] at k1
  obtain rfl := beq_str k1.1.1
  obtain rfl := beq_str k1.1.2
  obtain ⟨a, rfl⟩ := one_of k1.2
  obtain ⟨x, rfl, h1, h2⟩ := mtEs_one hm
  exact ze_sortedset G.calm (gl_of (hg _ (by simp))).1 (G.bl "sorted" (by decide)) (gl_of (hg _ (by simp))).1 (G.bl "set" (by decide)) (hx x rfl X W a G h2) (star_of h1 _ _)
theorem ok_mdf {mx : Bool} (hx : SE Γ nm cs x) : SE Γ nm cs (.mdf mx x) := fun X W e G h => by
  cases e with
  | Call f as ks pos =>
    cases f with
    | Name g p =>
      match as, ks, h with
      | [a], [⟨some k, .Constant .none j p2, kp⟩], h =>
        have h : (g == Str.ofString (Zh.mmName mx) && k == ("default" : Str) && glB X.env.scope g && nStar a && mtE nm cs X.N X.env.scope x a) = true := h
        simp only [Bool.and_eq_true] at h
        obtain ⟨⟨⟨⟨h1, h2⟩, h3⟩, h4⟩, h5⟩ := h
        obtain rfl := beq_str h1
        obtain rfl := beq_str h2
        exact ze_mdf G.calm G.un (gl_of h3).1 (G.bl (Zh.mmName mx) (by cases mx <;> decide)) (hx X W a G h5) fun r => star_of h4 r X.env
    | _ => cases h
  | _ => cases h
theorem Good.none {X : Cx} {W : WX} (G : Good X W nm cs Γ) : Good X (fun _ _ _ _ => False) nm cs Γ := ⟨G.calm, G.nd, G.un, takes0, G.bl, G.fn, G.cn⟩
theorem ok_lck {i : Nat} (hx : SE Γ nm cs x) : SE Γ nm cs (.lck i x) := fun X W e G h => by
  cases e with
  | ListComp el gs scope pos => exact ze_lck (hx X _ _ G.none h)
  | _ => cases h
theorem ok_lka (hx : SE Γ nm cs x) : SE Γ nm cs (.lka x) := fun X W e G h => by
  cases e with
  | ListComp el gs scope pos => exact ze_lka (hx X _ _ G.none h)
  | _ => cases h
theorem ok_rep (hx : SE Γ nm cs x) : SE Γ nm cs (.rep x) := fun X W e G h => by
  cases e with
  | Call f as ks pos =>
    cases f with
    | Name g p =>
      match as, ks, h with
      | [a], [], h =>
        have h : (g == ("repr" : Str) && glB X.env.scope g && nm.any (fun q => decide (q = .gd)) && nStar a && mtE nm cs X.N X.env.scope x a) = true := h
        simp only [Bool.and_eq_true] at h
        obtain ⟨⟨⟨⟨h1, h2⟩, h3⟩, h4⟩, h5⟩ := h
        obtain rfl := beq_str h1
        obtain ⟨q, hq, e⟩ := List.any_eq_true.mp h3
        obtain rfl : q = .gd := of_decide_eq_true e
        obtain ⟨i, hi⟩ := List.getElem?_of_mem hq
        obtain ⟨S, _, gd⟩ := G.fn i _ hi
        exact ze_rep gd G.un (gl_of h2).1 (G.bl "repr" (by decide)) (hx X W a G h5) (star_of h4 _ X.env)
    | _ => cases h
  | _ => cases h
theorem ok_rev (hx : SE Γ nm cs x) : SE Γ nm cs (.rev x) := fun X W e G h => by
  cases e with
  | Subscript a i pos =>
    match i, h with
    | .Slice none none (some (.UnaryOp .USub (.Constant (.int i) j p1) p2)) p3, h =>
      have h : (i == 1 && mtE nm cs X.N X.env.scope x a) = true := h
      rw [Bool.and_eq_true] at h
      obtain rfl : i = 1 := by simpa using h.1
      exact ze_rev (hx X W a G h.2)
  | _ => cases h
theorem ok_stp (hx : SE Γ nm cs x) (hy : SE Γ nm cs y) : SE Γ nm cs (.stp x y) := fun X W e G h => by
  cases e with
  | Subscript a i pos =>
    match i, h with
    | .Slice none none (some b) p3, h =>
      have h : (mtE nm cs X.N X.env.scope x a && mtE nm cs X.N X.env.scope y b) = true := h
      rw [Bool.and_eq_true] at h
      exact ze_stp (hx X W a G h.1) (hy X W b G h.2)
  | _ => cases h
theorem ok_listrange (hx : ∀ x ∈ xs, SE Γ nm cs x) : SE Γ nm cs (.bi .listrange xs) := fun X W e G h => by
  obtain ⟨f, p, as, pos, gs, bs, rfl, k, hg, hm⟩ := bi_inv h
  obtain ⟨g, p2, cs, q, rfl, k⟩ := nested_inv k
  obtain ⟨k1, k2⟩ := if_some k
  cases k2
  rw [Bool.and_eq_true, Bool.and_eq_true, Bool.or_eq_true] at k1
  obtain rfl := beq_str k1.1.1
  obtain rfl := beq_str k1.1.2
  rcases k1.2 with k2 | k2
  · obtain ⟨a, rfl⟩ := one_of k2
    obtain ⟨x, rfl, h1, h2⟩ := mtEs_one hm
    exact ze_listrange G.calm (gl_of (hg _ (by simp))).1 (G.bl "list" (by decide)) (gl_of (hg _ (by simp))).1 (G.bl "range" (by decide)) (hx x (by simp) X W a G h2) (star_of h1 _ _)
  · obtain ⟨a, b, rfl⟩ : ∃ a b, bs = [a, b] := by
      match bs, k2 with
      | [a, b], _ => exact ⟨a, b, rfl⟩
    cases xs with
    | nil => cases hm
    | cons x xs =>
      rw [mtEs, Bool.and_eq_true, Bool.and_eq_true] at hm
      obtain ⟨y, rfl, h3, h4⟩ := mtEs_one hm.2
      refine ze_listrange2 G.calm (gl_of (hg _ (by simp))).1 (G.bl "list" (by decide)) (gl_of (hg _ (by simp))).1 (G.bl "range" (by decide)) (hx x (by simp) X W a G hm.1.2) (hx y (by simp) X W b G h4) (star_of hm.1.1 _ _) (star_of h3 _ _) ?_
      rw [star_of h3]; rfl
theorem ok_mi {m : MI} (hx : SE Γ nm cs x) (hs : ∀ y, xs = [y] → SE Γ nm cs y) : SE Γ nm cs (.mi m x xs) := fun X W e G h => by
  cases e with
  | Call f as ks pos =>
    cases f with
    | Attribute a n apos =>
      cases ks with
      | nil =>
        have h : (n == Str.ofString (miName m) && decide (as.length = miAr m) && attrOk a && apos.endLine == pos.line && mtE nm cs X.N X.env.scope x a && mtEs nm cs X.N X.env.scope xs as) = true := h
        simp only [Bool.and_eq_true] at h
        obtain ⟨⟨⟨⟨⟨h1, h2⟩, h3⟩, h4⟩, h5⟩, h6⟩ := h
        obtain rfl := beq_str h1
        cases m with
        | append =>
          obtain ⟨b, rfl⟩ := one_of h2
          obtain ⟨y, rfl, h7, h8⟩ := mtEs_one h6
          exact ze_mi1 PySem.F.slot_list_append PySem.F.type_list_append mt_append (fun _ _ _ _ _ _ _ _ _ => mo_append) (hx X W a G h5) (hs y rfl X W b G h8) (attr_of h3 _ _ _) h4 fun r => star_of h7 r X.env
        | popAt =>
          obtain ⟨b, rfl⟩ := one_of h2
          obtain ⟨y, rfl, h7, h8⟩ := mtEs_one h6
          exact ze_mi1 PySem.F.slot_list_pop PySem.F.type_list_pop mt_popAt (fun _ _ _ _ _ _ _ _ _ => mo_popAt) (hx X W a G h5) (hs y rfl X W b G h8) (attr_of h3 _ _ _) h4 fun r => star_of h7 r X.env
        | index =>
          obtain ⟨b, rfl⟩ := one_of h2
          obtain ⟨y, rfl, h7, h8⟩ := mtEs_one h6
          exact ze_mi1 PySem.F.slot_list_index PySem.F.type_list_index (mt_indexD G.un) (fun _ _ _ _ _ _ _ _ _ => mo_index) (hx X W a G h5) (hs y rfl X W b G h8) (attr_of h3 _ _ _) h4 fun r => star_of h7 r X.env
        | count =>
          obtain ⟨b, rfl⟩ := one_of h2
          obtain ⟨y, rfl, h7, h8⟩ := mtEs_one h6
          exact ze_mi1 PySem.F.slot_list_count PySem.F.type_list_count (Zh.mt_countD G.un) (fun _ _ _ _ _ _ _ _ _ => mo_count) (hx X W a G h5) (hs y rfl X W b G h8) (attr_of h3 _ _ _) h4 fun r => star_of h7 r X.env
        | remove =>
          obtain ⟨b, rfl⟩ := one_of h2
          obtain ⟨y, rfl, h7, h8⟩ := mtEs_one h6
          exact ze_mi1 PySem.F.slot_list_remove PySem.F.type_list_remove mt_remove (fun _ _ _ _ _ _ _ _ _ => mo_remove) (hx X W a G h5) (hs y rfl X W b G h8) (attr_of h3 _ _ _) h4 fun r => star_of h7 r X.env
        | extend =>
          obtain ⟨b, rfl⟩ := one_of h2
          obtain ⟨y, rfl, h7, h8⟩ := mtEs_one h6
          exact ze_mi1 PySem.F.slot_list_extend PySem.F.type_list_extend mt_extend (fun _ _ _ _ _ _ _ _ _ => mo_extend) (hx X W a G h5) (hs y rfl X W b G h8) (attr_of h3 _ _ _) h4 fun r => star_of h7 r X.env
        | clear =>
          obtain rfl : as = [] := List.length_eq_zero_iff.mp (of_decide_eq_true h2)
          cases xs with
          | nil => exact ze_mi0 PySem.F.slot_list_clear PySem.F.type_list_clear mt_clear (fun _ _ _ _ _ _ _ => mo_clear) (hx X W a G h5) (attr_of h3 _ _ _) h4
          | cons _ _ => cases h6
        | pop =>
          obtain rfl : as = [] := List.length_eq_zero_iff.mp (of_decide_eq_true h2)
          cases xs with
          | nil => exact ze_mi0 PySem.F.slot_list_pop PySem.F.type_list_pop mt_pop (fun _ _ _ _ _ _ _ => mo_pop) (hx X W a G h5) (attr_of h3 _ _ _) h4
          | cons _ _ => cases h6
      | cons _ _ => cases h
    | _ => cases h
  | _ => cases h
theorem ok_isi {t : IT} (hx : SE Γ nm cs x) : SE Γ nm cs (.isi x t) := fun X W e G h => by
  cases e with
  | Call f as ks pos =>
    cases f with
    | Name g p =>
      match as, ks, h with
      | [a, .Name ty p2], [], h =>
        have h : (g == ("isinstance" : Str) && ty == Str.ofString (itName t) && glB X.env.scope g && glB X.env.scope ty && nStar a && mtE nm cs X.N X.env.scope x a) = true := h
        simp only [Bool.and_eq_true] at h
        obtain ⟨⟨⟨⟨⟨h1, h2⟩, h3⟩, h4⟩, h5⟩, h6⟩ := h
        obtain rfl := beq_str h1
        obtain rfl := beq_str h2
        exact ze_isi (gl_of h3).1 (G.bl "isinstance" (by decide)) (gl_of h4).1 (G.bl (itName t) (by cases t <;> decide)) (hx X W a G h6) fun r => star_of h5 r X.env
    | _ => cases h
  | _ => cases h
theorem any_xs {nm : List Cn} {rs : List Str} {c : Str} (h : nm.any (fun q : Cn => match q with | .xs rs' ts => decide (rs' = rs) && ts.contains c | _ => false) = true) : ∃ (k : Nat) (ts : List Str), nm[k]? = some (.xs rs ts) ∧ c ∈ ts := by
  obtain ⟨q, hq, e⟩ := List.any_eq_true.mp h
  cases q with
  | xs rs' ts =>
    have e : (decide (rs' = rs) && ts.contains c) = true := e
    rw [Bool.and_eq_true] at e
    have e1 := of_decide_eq_true e.1
    subst e1
    obtain ⟨k, hk⟩ := List.mem_iff_getElem?.mp hq
    exact ⟨k, ts, hk, by simpa using e.2⟩
  | _ => cases e
theorem ok_isx {rs : List Str} {c : Str} (hx : SE Γ nm cs x) : SE Γ nm cs (.isx x rs c) := fun X W e G h => by
  cases e with
  | Call f as ks pos =>
    cases f with
    | Name g p =>
      match as, ks, h with
      | [a, .Name ty p2], [], h =>
        have h : (g == ("isinstance" : Str) && ty == c && glB X.env.scope g && glB X.env.scope ty && !rs.isEmpty && nm.any (fun q => match q with | .xs rs' ts => decide (rs' = rs) && ts.contains c | _ => false) && !(ty == ("__debug__" : Str)) && nStar a && mtE nm cs X.N X.env.scope x a) = true := h
        simp only [Bool.and_eq_true] at h
        obtain ⟨⟨⟨⟨⟨⟨⟨⟨h1, h2⟩, h3⟩, h4⟩, h5⟩, h6⟩, h7⟩, h8⟩, h9⟩ := h
        obtain rfl := beq_str h1
        obtain rfl := beq_str h2
        obtain ⟨k, ts, hk, hc⟩ := any_xs h6
        obtain ⟨S, _, xr⟩ := G.fn k _ hk
        exact ze_isx xr (fun z => by rw [z] at h5; cases h5) hc (gl_of h3).1 (G.bl "isinstance" (by decide)) (gl_of h4).1 (by simpa using h7) (hx X W a G h9) fun r => star_of h8 r X.env
    | _ => cases h
  | _ => cases h
theorem any_xs2 {nm : List Cn} {rs ks : List Str} (h : nm.any (fun q => match q with | .xs rs' ts => decide (rs' = rs) && ks.all (fun c => ts.contains c) | _ => false) = true) : ∃ (k : Nat) (ts : List Str), nm[k]? = some (.xs rs ts) ∧ ∀ c ∈ ks, c ∈ ts := by
  obtain ⟨q, hq, e⟩ := List.any_eq_true.mp h
  cases q with
  | xs rs' ts =>
    have e : (decide (rs' = rs) && ks.all (fun c => ts.contains c)) = true := e
    rw [Bool.and_eq_true] at e
    have e1 := of_decide_eq_true e.1
    subst e1
    obtain ⟨k, hk⟩ := List.mem_iff_getElem?.mp hq
    exact ⟨k, ts, hk, fun c hc => by simpa using List.all_eq_true.mp e.2 c hc⟩
  | _ => cases e
theorem ok_isxs {rs ks : List Str} (hx : SE Γ nm cs x) : SE Γ nm cs (.isxs x rs ks) := fun X W e G h => by
  cases e with
  | Call f as kws pos =>
    cases f with
    | Name g p =>
      match as, kws, h with
      | [a, .Tuple es k p2], [], h =>
        have h : (g == ("isinstance" : Str) && mtN ks es && glB X.env.scope g && ks.all (fun c => glB X.env.scope c && !(c == ("__debug__" : Str))) && !rs.isEmpty && nm.any (fun q => match q with | .xs rs' ts => decide (rs' = rs) && ks.all (fun c => ts.contains c) | _ => false) && decide (ks.length ≤ 1000) && nStar a && mtE nm cs X.N X.env.scope x a) = true := h
        simp only [Bool.and_eq_true] at h
        obtain ⟨⟨⟨⟨⟨⟨⟨⟨h1, h2⟩, h3⟩, h4⟩, h5⟩, h6⟩, h7⟩, h8⟩, h9⟩ := h
        obtain rfl := beq_str h1
        obtain ⟨i, ts, hk, hc⟩ := any_xs2 h6
        obtain ⟨S, _, xr⟩ := G.fn i _ hk
        refine ze_isxs xr (fun z => by rw [z] at h5; cases h5) h2 (fun c hm => ?_) (of_decide_eq_true h7) (gl_of h3).1 (G.bl "isinstance" (by decide)) (hx X W a G h9) fun r => star_of h8 r X.env
        have q := List.all_eq_true.mp h4 c hm
        rw [Bool.and_eq_true] at q
        exact ⟨hc c hm, (gl_of q.1).1, by simpa using q.2⟩
    | _ => cases h
  | _ => cases h
end
end Z

/-! ZsN: soundness of expressions as a whole, the end. -/
namespace Z
open PySem PyProof.Rows L2

theorem SR.blk {X : Cx} {ρ : List Addr} {σz : Env} {h : Hep} {σ : L2.St} {H : Hp} (s : SR X ρ σz h σ H) {s0 : Shared} {H0 : Hp} {scope : Scope} {ce : PySem.Env} {fp : List Addr} : SR (X.blk s0 H0 scope ce fp) ρ σz h σ H := ⟨s.hr, s.len, s.sl⟩
theorem SR.unblk {X : Cx} {ρ : List Addr} {σz : Env} {h : Hep} {σ : L2.St} {H : Hp} {s0 : Shared} {H0 : Hp} {scope : Scope} {ce : PySem.Env} {fp : List Addr} (s : SR (X.blk s0 H0 scope ce fp) ρ σz h σ H) : SR X ρ σz h σ H := ⟨s.hr, s.len, s.sl⟩
theorem LG.blk {X : Cx} {t : Tg} {v : V} {σ : L2.St} {H : Hp} {Q : L2.St → Hp → Prop} (q : LG X t v σ H Q) {s0 : Shared} {H0 : Hp} {scope : Scope} {ce : PySem.Env} {fp : List Addr} : LG (X.blk s0 H0 scope ce fp) t v σ H Q := by
  obtain ⟨ρ, σz, h, x, s, p, σz', e, k⟩ := q
  exact ⟨ρ, σz, h, x, s.blk, p, σz', e, fun σ' s' b => k σ' s'.unblk b⟩
theorem LE.blk {X : Cx} {W : WX} {w : WE} {σ : L2.St} {H : Hp} {Q : VK} (q : LE X W w σ H Q) {s0 : Shared} {H0 : Hp} {scope : Scope} {ce : PySem.Env} {fp : List Addr} : LE (X.blk s0 H0 scope ce fp) W w σ H Q := by
  obtain ⟨ρ, σz, h, F, E, s, kq, kx, w⟩ := q
  exact ⟨ρ, σz, h, F, E, s.blk, kq, kx, w⟩
theorem LT.blk {X : Cx} {W : WX} {w : Env → Hep → KB → KX → Prop} {σ : L2.St} {H : Hp} {Q : Bool → Hp → Prop} (q : LT X W w σ H Q) {s0 : Shared} {H0 : Hp} {scope : Scope} {ce : PySem.Env} {fp : List Addr} : LT (X.blk s0 H0 scope ce fp) W w σ H Q := by
  obtain ⟨ρ, σz, h, F, E, s, kq, kx, w⟩ := q
  exact ⟨ρ, σz, h, F, E, s.blk, kq, kx, w⟩
section
variable {nm : List Cn} {cs : List (Str × PV)} {Γ : List Spec} {x y z : Ex} {xs : List Ex}
def SC (Γ : List Spec) (nm : List Cn) (cs : List (Str × PV)) (c : Option Ex) : Prop := ∀ y, c = some y → ST Γ nm cs y
theorem ok_comp {own : List Nat} {t : Tg} {c : Option Ex} (hi : SI Γ nm cs x) (hc : SC Γ nm cs c) (he : SE Γ nm cs y) : SE Γ nm cs (.comp own t x c y) := fun X W a G h => by
  cases a with
  | ListComp el gens scope pos =>
    obtain ⟨tg, ir, ifs, rfl⟩ : ∃ tg ir ifs, gens = [⟨tg, ir, ifs, 0⟩] := by
      match gens, h with
      | [⟨tg, ir, ifs, 0⟩], _ => exact ⟨tg, ir, ifs, rfl⟩
    · have h : (L2.blkC X.N X.env.scope scope (ownP X.N own) && decide ((ownP X.N own).map (·.2) = own) && (slotsT t).all (fun i => own.contains i) && mtT X.N (tkB scope X.env.scope) t tg && mtI nm cs X.N X.env.scope x tg ir &&
        mtC nm cs X.N (L2.relS scope X.env.scope) c ifs && mtE nm cs X.N (L2.relS scope X.env.scope) y el && nSet ir) = true := h
      simp only [Bool.and_eq_true] at h
      obtain ⟨⟨⟨⟨⟨⟨⟨h1, h2⟩, h3⟩, h4⟩, h5⟩, h6⟩, h7⟩, h8⟩ := h
      have e2 := of_decide_eq_true h2
      have sub : ∀ j ∈ slotsT t, j ∈ own := fun j hj => by
        have q := List.all_eq_true.mp h3 j hj
        simpa using q
      have pg : ∀ (s : Shared) (H : Hp) (C : Addr) (cl : List (Str × Addr)) (fp : List Addr), PG (X.blk s H scope (compEnvC scope cl C X.env) fp) tg (LG X t) := fun s H C cl fp =>
        pg_imp (sG (X := X.blk s H scope (compEnvC scope cl C X.env) fp) G.calm G.nd (tkB_ok s H scope C cl fp) t tg h4) fun v σ H Q q => q.blk
      have pe : ∀ (s : Shared) (H : Hp) (C : Addr) (cl : List (Str × Addr)) (fp : List Addr), PE (X.blk s H scope (compEnvC scope cl C X.env) fp) el (LE X (fun _ _ _ _ => False) (wE Γ y)) := fun s H C cl fp =>
        pe_imp (he (X.blk s H scope (compEnvC scope cl C X.env) fp) _ el (G.blk s H scope _ fp) h7) fun σ H Q q => q.blk
      clear h
      match c, ifs with
      | none, [] =>
        refine pe_imp (pe_lc G.calm G.nd (hi X W tg ir G h5) (blkOk_by h1) pg (fun _ _ _ _ _ => pts_nil) pe (fun v => folded_of h8 _ v)) fun σ H Q q => ?_
        rw [e2]
        refine le_comp (it := x) (co := none) sub (fun σ H Q q => ?_) (fun σ H Q q => q) σ H Q q
        obtain ⟨ρ, σz, h, F, E, sr, kq, kx, w⟩ := q
        exact kq true h ρ H .refl sr.hr w
      | some c, [f] =>
        have pt : ∀ (s : Shared) (H : Hp) (C : Addr) (cl : List (Str × Addr)) (fp : List Addr), PT (X.blk s H scope (compEnvC scope cl C X.env) fp) f (LT X (fun _ _ _ _ => False) (wT Γ c)) := fun s H C cl fp =>
          pt_imp (hc c rfl (X.blk s H scope (compEnvC scope cl C X.env) fp) _ f (G.blk s H scope _ fp) h6) fun σ H Q q => q.blk
        refine pe_imp (pe_lc G.calm G.nd (hi X W tg ir G h5) (blkOk_by h1) pg (fun s H C cl fp => pts_one (pt s H C cl fp)) pe (fun v => folded_of h8 _ v)) fun σ H Q q => ?_
        rw [e2]
        refine le_comp (it := x) (co := some c) sub (fun σ H Q q => ?_) (fun σ H Q q => q) σ H Q q
        obtain ⟨ρ, σz, h, F, E, sr, kq, kx, w⟩ := q
        exact ⟨ρ, σz, h, F, noX, sr, kq, KXok.no, w⟩
      | none, _ :: _ => cases h6
      | some _, [] => cases h6
      | some _, _ :: _ :: _ => cases h6
  | _ => cases h
theorem oks_nil : SEs Γ nm cs [] := fun X W es G h => by
  cases es with
  | nil => exact za_nil
  | cons _ _ => cases h
theorem oks_cons (hx : SE Γ nm cs x) (hs : SEs Γ nm cs xs) : SEs Γ nm cs (x :: xs) := fun X W es G h => by
  cases es with
  | nil => cases h
  | cons a as =>
    have h : (nStar a && mtE nm cs X.N X.env.scope x a && mtEs nm cs X.N X.env.scope xs as) = true := h
    simp only [Bool.and_eq_true] at h
    exact za_cons (hx X W a G h.1.2) (hs X W as G h.2) (star_of h.1.1 as X.env)
theorem oko_none : SO Γ nm cs none := fun X W e G h => by
  cases e with
  | none => exact zo_none
  | some _ => cases h
theorem oko_some (hx : SE Γ nm cs x) : SO Γ nm cs (some x) := fun X W e G h => by
  cases e with
  | none => cases h
  | some a => exact zo_some (hx X W a G h)
theorem oi_rng1 (hx : SE Γ nm cs x) : SI Γ nm cs (.rng1 x) := fun X W tg e G h => by
  cases e with
  | Call f as ks pos =>
    cases f with
    | Name g p =>
      match as, ks, h with
      | [a], [], h =>
        have h : (g == ("range" : Str) && glB X.env.scope g && nStar a && mtE nm cs X.N X.env.scope x a) = true := h
        simp only [Bool.and_eq_true] at h
        obtain ⟨⟨⟨h1, h2⟩, h3⟩, h4⟩ := h
        obtain rfl := beq_str h1
        exact zi_rng1 (gl_of h2).1 (G.bl "range" (by decide)) (hx X W a G h4) (star_of h3 [] X.env)
    | _ => cases h
  | _ => cases h
theorem oi_rng2 (hx : SE Γ nm cs x) (hy : SE Γ nm cs y) : SI Γ nm cs (.rng2 x y) := fun X W tg e G h => by
  cases e with
  | Call f as ks pos =>
    cases f with
    | Name g p =>
      match as, ks, h with
      | [a, b], [], h =>
        have h : (g == ("range" : Str) && glB X.env.scope g && nStar a && nStar b && mtE nm cs X.N X.env.scope x a && mtE nm cs X.N X.env.scope y b) = true := h
        simp only [Bool.and_eq_true] at h
        obtain ⟨⟨⟨⟨⟨h1, h2⟩, h3⟩, h4⟩, h5⟩, h6⟩ := h
        obtain rfl := beq_str h1
        exact zi_rng2 (gl_of h2).1 (G.bl "range" (by decide)) (hx X W a G h5) (hy X W b G h6) (star_of h3 [b] X.env) (star_of h4 [] X.env)
    | _ => cases h
  | _ => cases h
theorem oi_rng3 (hx : SE Γ nm cs x) (hy : SE Γ nm cs y) (hz : SE Γ nm cs z) : SI Γ nm cs (.rng3 x y z) := fun X W tg e G h => by
  cases e with
  | Call f as ks pos =>
    cases f with
    | Name g p =>
      match as, ks, h with
      | [a, b, c], [], h =>
        have h : (g == ("range" : Str) && glB X.env.scope g && nStar a && nStar b && nStar c && mtE nm cs X.N X.env.scope x a && mtE nm cs X.N X.env.scope y b && mtE nm cs X.N X.env.scope z c) = true := h
        simp only [Bool.and_eq_true] at h
        obtain ⟨⟨⟨⟨⟨⟨⟨h1, h2⟩, h3⟩, h4⟩, h5⟩, h6⟩, h7⟩, h8⟩ := h
        obtain rfl := beq_str h1
        exact zi_rng3 (gl_of h2).1 (G.bl "range" (by decide)) (hx X W a G h6) (hy X W b G h7) (hz X W c G h8) (star_of h3 [b, c] X.env) (star_of h4 [c] X.env) (star_of h5 [] X.env)
    | _ => cases h
  | _ => cases h
theorem oi_enum (hx : SE Γ nm cs x) : SI Γ nm cs (.enum x) := fun X W tg e G h => by
  cases e with
  | Call f as ks pos =>
    cases f with
    | Name g p =>
      match tg, as, ks, h with
      | .Tuple es k tp, [a], [], h =>
        have h : (g == ("enumerate" : Str) && glB X.env.scope g && nStar a && mtE nm cs X.N X.env.scope x a) = true := h
        simp only [Bool.and_eq_true] at h
        obtain ⟨⟨⟨h1, h2⟩, h3⟩, h4⟩ := h
        obtain rfl := beq_str h1
        exact zi_enum (gl_of h2).1 (G.bl "enumerate" (by decide)) (hx X W a G h4) (star_of h3 [] X.env)
    | _ => cases tg <;> cases h
  | _ => cases tg <;> cases h
theorem oi_rvs (hx : SE Γ nm cs x) : SI Γ nm cs (.rvs x) := fun X W tg e G h => by
  cases e with
  | Call f as ks pos =>
    cases f with
    | Name g p =>
      match as, ks, h with
      | [a], [], h =>
        have h : (g == ("reversed" : Str) && glB X.env.scope g && nStar a && mtE nm cs X.N X.env.scope x a) = true := h
        simp only [Bool.and_eq_true] at h
        obtain ⟨⟨⟨h1, h2⟩, h3⟩, h4⟩ := h
        obtain rfl := beq_str h1
        exact zi_rvs (gl_of h2).1 (G.bl "reversed" (by decide)) (hx X W a G h4) (by rw [star_of h3]; rfl) (star_of h3 _ _)
    | _ => cases h
  | _ => cases h
theorem oi_zip (hx : SE Γ nm cs x) (hy : SE Γ nm cs y) : SI Γ nm cs (.zip x y) := fun X W tg e G h => by
  cases e with
  | Call f as ks pos =>
    cases f with
    | Name g p =>
      match tg, as, ks, h with
      | .Tuple es k tp, [a, b], [], h =>
        have h : (g == ("zip" : Str) && glB X.env.scope g && nStar a && nStar b && mtE nm cs X.N X.env.scope x a && mtE nm cs X.N X.env.scope y b) = true := h
        simp only [Bool.and_eq_true] at h
        obtain ⟨⟨⟨⟨⟨h1, h2⟩, h3⟩, h4⟩, h5⟩, h6⟩ := h
        obtain rfl := beq_str h1
        exact zi_zip (gl_of h2).1 (G.bl "zip" (by decide)) (hx X W a G h5) (hy X W b G h6) (star_of h3 [b] X.env) (star_of h4 [] X.env)
    | _ => cases tg <;> cases h
  | _ => cases tg <;> cases h
theorem oi_zipn (hx : SE Γ nm cs x) (hy : SE Γ nm cs y) : SI Γ nm cs (.zipn x y) := fun X W tg e G h => by
  cases e with
  | Call f as ks pos =>
    cases f with
    | Name g p =>
      match tg, as, ks, h with
      | .Name tx tp, [a, b], [], h =>
        have h : (g == ("zip" : Str) && glB X.env.scope g && nStar a && nStar b && mtE nm cs X.N X.env.scope x a && mtE nm cs X.N X.env.scope y b) = true := h
        simp only [Bool.and_eq_true] at h
        obtain ⟨⟨⟨⟨⟨h1, h2⟩, h3⟩, h4⟩, h5⟩, h6⟩ := h
        obtain rfl := beq_str h1
        exact zi_zipn (gl_of h2).1 (G.bl "zip" (by decide)) (hx X W a G h5) (hy X W b G h6) (star_of h3 [b] X.env) (star_of h4 [] X.env)
    | _ => cases tg <;> cases h
  | _ => cases tg <;> cases h
theorem oi_wld {i : Nat} : SI Γ nm cs (.wld i) := fun X W tg e G h => by
  cases e with
  | Name y p => exact zi_wld (ok_var X W (.Name y p) G h)
  | _ => cases h
theorem oi_wlx (hx : SE Γ nm cs x) : SI Γ nm cs (.wlx x) := fun X W tg e G h => zi_wlx (hx X W e G h)
theorem oi_wlk (hx : SE Γ nm cs x) : SI Γ nm cs (.wlk x) := fun X W tg e G h => zi_walk (hx X W e G h)

/-! ### as a whole -/
structure OK (Γ : List Spec) (nm : List Cn) (cs : List (Str × PV)) (x : Ex) : Prop where
  e : SE Γ nm cs x
  t : ST Γ nm cs x
  w : SW Γ nm cs x
  i : SI Γ nm cs x
structure OKs (Γ : List Spec) (nm : List Cn) (cs : List (Str × PV)) (xs : List Ex) : Prop where
  e : SEs Γ nm cs xs
  m : ∀ x ∈ xs, OK Γ nm cs x
structure OKo (Γ : List Spec) (nm : List Cn) (cs : List (Str × PV)) (x : Option Ex) : Prop where
  e : SO Γ nm cs x
  m : ∀ y, x = some y → OK Γ nm cs y
theorem okP (h : SE Γ nm cs x) (hp : ∀ N sc e, mtE nm cs N sc x e = true → tPlain e = true) (hi : ∀ N sc tg e, mtI nm cs N sc x tg e = false) : OK Γ nm cs x where
  e := h
  t := fun X W e G m => zt_of (h X W e G m) fun whole => isTrue_of (hp _ _ _ m) X.env whole
  w := fun X W op vs pos G m => by cases hp _ _ _ m
  i := fun X W tg e G m => by rw [hi] at m; cases m
/-- only walked -/
theorem okI (h : SI Γ nm cs x) (hp : ∀ N sc e, mtE nm cs N sc x e = false) : OK Γ nm cs x where
  e := fun X W e G m => by rw [hp] at m; cases m
  t := fun X W e G m => by rw [hp] at m; cases m
  w := fun X W op vs pos G m => by rw [hp] at m; cases m
  i := h
theorem okB (h : SE Γ nm cs x) (t : ST Γ nm cs x) (hw : SW Γ nm cs x) (hi : ∀ N sc tg e, mtI nm cs N sc x tg e = false) : OK Γ nm cs x where
  e := h
  t := t
  w := hw
  i := fun X W tg e G m => by rw [hi] at m; cases m
theorem okT (h : SE Γ nm cs x) (t : ST Γ nm cs x) (hw : ∀ N sc op vs pos, mtE nm cs N sc x (.BoolOp op vs pos) = false) (hi : ∀ N sc tg e, mtI nm cs N sc x tg e = false) : OK Γ nm cs x :=
  okB h t (fun X W op vs pos G m => by rw [hw] at m; cases m) hi
theorem okl_cons (h : OK Γ nm cs x) (hs : OKs Γ nm cs xs) : OKs Γ nm cs (x :: xs) := ⟨oks_cons h.e hs.e, fun y m => by
  rcases List.mem_cons.mp m with e | m
  · rw [e]; exact h
  · exact hs.m y m⟩
theorem okO_some (h : OK Γ nm cs x) : OKo Γ nm cs (some x) := ⟨oko_some h.e, fun y m => by cases m; exact h⟩
theorem okBi {b : BI} (hs : OKs Γ nm cs xs) : OK Γ nm cs (.bi b xs) := by
  have one : ∀ x, xs = [x] → SE Γ nm cs x := fun x e => (hs.m x (by rw [e]; exact List.mem_singleton_self x)).e
  refine okP ?_ (fun N sc e h => by cases e <;> first | rfl | cases h) fun _ _ _ _ => rfl
  cases b with
  | tuple => exact ok_tuple one
  | lenset => exact ok_lenset one
  | xtuple => exact ok_xtuple one
  | lenkeys => exact ok_lenkeys one
  | listrange => exact ok_listrange fun x m => (hs.m x m).e
  | sortedset => exact ok_sortedset one
  | dictenum => exact ok_dictenum one
  | _ => exact ok_bi1 rfl (by decide) hs.e
mutual
theorem okA : ∀ x : Ex, OK Γ nm cs x
  | .var i => okP ok_var (fun N sc e h => by cases e <;> first | rfl | cases h) fun _ _ _ _ => rfl
  | .non => okP ok_non (fun N sc e h => by cases e <;> first | rfl | cases h) fun _ _ _ _ => rfl
  | .bl b => okP ok_bl (fun N sc e h => by cases e <;> first | rfl | cases h) fun _ _ _ _ => rfl
  | .int b => okP ok_int (fun N sc e h => by cases e <;> first | rfl | cases h) fun _ _ _ _ => rfl
  | .str b => okP ok_str (fun N sc e h => by cases e <;> first | rfl | cases h) fun _ _ _ _ => rfl
  | .con x v => okP ok_con (fun N sc e h => by cases e <;> first | rfl | cases h) fun _ _ _ _ => rfl
  | .bin o a b => okP (ok_bin (okA a).e (okA b).e) (fun N sc e h => by cases e <;> first | rfl | cases h) fun _ _ _ _ => rfl
  | .neg a => okP (ok_neg (okA a).e) (fun N sc e h => by
    cases e with
    | UnaryOp op l p => cases op <;> first | rfl | cases h
    | _ => first | rfl | cases h) fun _ _ _ _ => rfl
  | .not a => okT (ok_not (okA a).e) (ot_not (okA a).t) (fun _ _ _ _ _ => rfl) fun _ _ _ _ => rfl
  | .and a b => okB (ok_and (okA a).e (okA b).e) (ot_bool (ow_and (okA a).t (okA b).t (okA b).w) and_bool) (ow_and (okA a).t (okA b).t (okA b).w) fun _ _ _ _ => rfl
  | .or a b => okB (ok_or (okA a).e (okA b).e) (ot_bool (ow_or (okA a).t (okA b).t (okA b).w) or_bool) (ow_or (okA a).t (okA b).t (okA b).w) fun _ _ _ _ => rfl
  | .ife c a b => okT (ok_ife (okA c).t (okA a).e (okA b).e) (ot_ife (okA c).t (okA a).t (okA b).t) (fun _ _ _ _ _ => rfl) fun _ _ _ _ => rfl
  | .cmp o a b => okT (ok_cmp (okA a).e (okA b).e) (ot_cmp (okA a).e (okA b).e) (fun _ _ _ _ _ => rfl) fun _ _ _ _ => rfl
  | .chn o o' a b c => okT (ok_chn (okA a).e (okA b).e (okA c).e) (ot_chn (okA a).e (okA b).e (okA c).e) (fun _ _ _ _ _ => rfl) fun _ _ _ _ => rfl
  | .chn3 o o' o'' a b c d => okT (ok_chn3 (okA a).e (okA b).e (okA c).e (okA d).e) (ot_chn3 (okA a).e (okA b).e (okA c).e (okA d).e) (fun _ _ _ _ _ => rfl) fun _ _ _ _ => rfl
  | .lck i a => okP (ok_lck (okA a).e) (fun N sc e h => by cases e <;> first | rfl | cases h) fun _ _ _ _ => rfl
  | .lka a => okP (ok_lka (okA a).e) (fun N sc e h => by cases e <;> first | rfl | cases h) fun _ _ _ _ => rfl
  | .rep a => okP (ok_rep (okA a).e) (fun N sc e h => by cases e <;> first | rfl | cases h) fun _ _ _ _ => rfl
  | .mdf mx a => okP (ok_mdf (okA a).e) (fun N sc e h => by cases e <;> first | rfl | cases h) fun _ _ _ _ => rfl
  | .rev a => okP (ok_rev (okA a).e) (fun N sc e h => by cases e <;> first | rfl | cases h) fun _ _ _ _ => rfl
  | .tup es => okP (ok_tup (okL es).e) (fun N sc e h => by cases e <;> first | rfl | cases h) fun _ _ _ _ => rfl
  | .xtp es => okP (ok_xtp (okL es).e) (fun N sc e h => by cases e <;> first | rfl | cases h) fun _ _ _ _ => rfl
  | .stp a k => okP (ok_stp (okA a).e (okA k).e) (fun N sc e h => by cases e <;> first | rfl | cases h) fun _ _ _ _ => rfl
  | .dg1 a k => okP (ok_dg1 (okA a).e (okA k).e) (fun N sc e h => by cases e <;> first | rfl | cases h) fun _ _ _ _ => rfl
  | .dg2 a k d => okP (ok_dg2 (okA a).e (okA k).e (okA d).e) (fun N sc e h => by cases e <;> first | rfl | cases h) fun _ _ _ _ => rfl
  | .sm m a k => okP (ok_sm (okA a).e (okA k).e) (fun N sc e h => by cases e <;> first | rfl | cases h) fun _ _ _ _ => rfl
  | .dcd ks es => okP (ok_dcd fun x hx => ((okL es).m x hx).e) (fun N sc e h => by cases e <;> first | rfl | cases h) fun _ _ _ _ => rfl
  | .lst es => okP (ok_lst (okL es).e) (fun N sc e h => by cases e <;> first | rfl | cases h) fun _ _ _ _ => rfl
  | .dct => okP ok_dct (fun N sc e h => by cases e <;> first | rfl | cases h) fun _ _ _ _ => rfl
  | .idx a i => okP (ok_idx (okA a).e (okA i).e) (fun N sc e h => by cases e <;> first | rfl | cases h) fun _ _ _ _ => rfl
  | .slc a lo hi => okP (ok_slc (okA a).e (okO lo).e (okO hi).e) (fun N sc e h => by cases e <;> first | rfl | cases h) fun _ _ _ _ => rfl
  | .call f es => okP (ok_call (okL es).e) (fun N sc e h => by cases e <;> first | rfl | cases h) fun _ _ _ _ => rfl
  | .bi b es => okBi (okL es)
  | .fldx a c f => okP (ok_fldx (okA a).e) (fun N sc e h => by cases e <;> first | rfl | cases h) fun _ _ _ _ => rfl
  | .fld a c f => okP (ok_fld (okA a).e) (fun N sc e h => by cases e <;> first | rfl | cases h) fun _ _ _ _ => rfl
  | .mth i c m a es => okP (ok_mth (okA a).e (okL es).e) (fun N sc e h => by cases e <;> first | rfl | cases h) fun _ _ _ _ => rfl
  | .new i c es => okP (ok_new (okL es).e) (fun N sc e h => by cases e <;> first | rfl | cases h) fun _ _ _ _ => rfl
  | .mi m a es => okP (ok_mi (okA a).e fun x e => ((okL es).m x (by rw [e]; exact List.mem_singleton_self x)).e) (fun N sc e h => by cases e <;> first | rfl | cases h) fun _ _ _ _ => rfl
  | .isxs a rs ks => okP (ok_isxs (okA a).e) (fun N sc e h => by cases e <;> first | rfl | cases h) fun _ _ _ _ => rfl
  | .isx a rs c => okP (ok_isx (okA a).e) (fun N sc e h => by cases e <;> first | rfl | cases h) fun _ _ _ _ => rfl
  | .isi a t => okP (ok_isi (okA a).e) (fun N sc e h => by cases e <;> first | rfl | cases h) fun _ _ _ _ => rfl
  | .comp own t it c e => okP (ok_comp (okA it).i (fun y ey => ((okO c).m y ey).t) (okA e).e) (fun N sc e h => by cases e <;> first | rfl | cases h) fun _ _ _ _ => rfl
  | .wld i => okI oi_wld fun _ _ _ => rfl
  | .wlx a => okI (oi_wlx (okA a).e) fun _ _ _ => rfl
  | .wlk a => okI (oi_wlk (okA a).e) fun _ _ _ => rfl
  | .rng1 a => okI (oi_rng1 (okA a).e) fun _ _ _ => rfl
  | .rng2 a b => okI (oi_rng2 (okA a).e (okA b).e) fun _ _ _ => rfl
  | .rng3 a b c => okI (oi_rng3 (okA a).e (okA b).e (okA c).e) fun _ _ _ => rfl
  | .enum a => okI (oi_enum (okA a).e) fun _ _ _ => rfl
  | .rvs a => okI (oi_rvs (okA a).e) fun _ _ _ => rfl
  | .zip a b => okI (oi_zip (okA a).e (okA b).e) fun _ _ _ => rfl
  | .zipn a b => okI (oi_zipn (okA a).e (okA b).e) fun _ _ _ => rfl
termination_by structural x => x
theorem okL : ∀ xs : List Ex, OKs Γ nm cs xs
  | [] => ⟨oks_nil, fun x h => by cases h⟩
  | x :: xs => okl_cons (okA x) (okL xs)
termination_by structural xs => xs
theorem okO : ∀ x : Option Ex, OKo Γ nm cs x
  | none => ⟨oko_none, fun y h => by cases h⟩
  | some x => okO_some (okA x)
termination_by structural x => x
end
end
end Z

/-! ZsO: statements as a whole. -/
namespace Z
open PySem PyProof.Rows L2

/-! ### the order of the stores -/
def swNms (sc : Scope) (ts : List Expr) : List Str := ts.filterMap fun
  | .Name id pos => if sc.names.lookup id == some .local && pos.line == (ts.head?.map (·.pos.line)).getD 0 then some id else none
  | _ => none
def isStarX : Expr → Bool
  | .Starred .. => true
  | _ => false
/-- the stores go in their order -/
def swNo (sc : Scope) (ts vs : List Expr) : Bool :=
  (!(ts.length == 2 || ts.length == 3) || vs.length != ts.length) || vs.any isStarX || ((swNms sc ts).length != ts.length || (swNms sc ts).eraseDups.length != (swNms sc ts).length) || vs.all (foldedForSure 8)
def swYes (sc : Scope) (ts vs : List Expr) : Bool :=
  !(!(ts.length == 2 || ts.length == 3) || vs.length != ts.length) && !vs.any isStarX && !((swNms sc ts).length != ts.length || (swNms sc ts).eraseDups.length != (swNms sc ts).length) && !vs.all (foldedForSure 8) && !vs.all (constantsAlone 8)
section
variable {env : PySem.Env} {ts vs : List Expr} {k k2 : Nat} {p p2 : Pos}
theorem sw_no (hk : env.blockKind = .function) (h : swNo env.scope ts vs = true) : swappedStores [.Tuple ts k p] (.Tuple vs k2 p2) env = pure none := by
  unfold swappedStores
  simp only [hk, bne_self_eq_false, Bool.or_false]
  unfold swNo at h
  simp only [Bool.or_eq_true] at h
  split
  · rfl
  · rename_i n1
    split
    · rfl
    · rename_i n2
      split
      · rfl
      · rename_i n3
        split
        · rfl
        · rename_i n4
          exfalso
          rcases h with ((h | h) | h) | h
          · exact n1 (by rw [Bool.or_eq_true]; exact h)
          · exact n2 h
          · exact n3 (by show ((swNms env.scope ts).length != ts.length || (swNms env.scope ts).eraseDups.length != (swNms env.scope ts).length) = true; rw [Bool.or_eq_true]; exact h)
          · exact n4 h
theorem sw_yes (hk : env.blockKind = .function) (h : swYes env.scope ts vs = true) : swappedStores [.Tuple ts k p] (.Tuple vs k2 p2) env = pure (some (swNms env.scope ts)) := by
  unfold swappedStores
  simp only [hk, bne_self_eq_false, Bool.or_false]
  unfold swYes at h
  simp only [Bool.and_eq_true, Bool.not_eq_true'] at h
  obtain ⟨⟨⟨⟨h1, h2⟩, h3⟩, h4⟩, h5⟩ := h
  rw [if_neg (by rw [h1]; decide)]
  rw [if_neg (by show ¬ vs.any isStarX = true; rw [h2]; decide)]
  rw [if_neg (by show ¬ ((swNms env.scope ts).length != ts.length || (swNms env.scope ts).eraseDups.length != (swNms env.scope ts).length) = true; rw [h3]; decide)]
  rw [if_neg (by rw [h4]; decide), if_neg (by rw [h5]; decide)]
  rfl
end

/-! ### looks -/
def nTup : Expr → Bool
  | .Tuple .. => false
  | _ => true
/-- the swap of a comprehension's store and its end -/
def swLc (sc : Scope) (tg a : Expr) : Bool := match tg, a with
  | .Name y py, .ListComp _ _ scope pos => lkB sc y .local && py.line == pos.line && !(scope.names.any fun (n, k) => n == y && (k == .local || k == .cell))
  | _, _ => false
def stNo (sc : Scope) (tg a : Expr) : Bool := match tg, a with
  | .Tuple ts _ _, .Tuple vs _ _ => swNo sc ts vs
  | .Tuple _ _ _, a => nTup a
  | .Name _ _, _ => true
  | _, _ => false
/-- a comprehension stored in a cell: no swap -/
def clLc (sc : Scope) (tg a : Expr) : Bool := match tg, a with
  | .Name y _, .ListComp _ _ _ _ => lkB sc y .cell
  | _, _ => false
/-- raise C('text') -/
def raiB (nm : List Cn) (sc : Scope) (c : Str) : Stmt → Bool
  | .Raise (some (.Call (.Name x _) [.Constant (.str _) _ _] [] _)) none _ => x == c && glB sc x && nm.any fun q => decide (q = .er c)
  | _ => false
/-- raise C(e) -/
def rafE (nm : List Cn) (sc : Scope) (c f : Str) : Stmt → Option Expr
  | .Raise (some (.Call (.Name x _) [a] [] _)) none _ => if (x == c && glB sc x && nStar a && nm.any fun q => decide (q = .ei c f)) = true then some a else none
  | _ => none
theorem rafE_inv {nm : List Cn} {sc : Scope} {c f : Str} {t : Stmt} {a : Expr} (h : rafE nm sc c f t = some a) : ∃ p p3 pos, t = .Raise (some (.Call (.Name c p) [a] [] p3)) none pos ∧ glB sc c = true ∧ nStar a = true ∧ .ei c f ∈ nm := by
  unfold rafE at h
  split at h
  · split at h
    · rename_i g
      cases h
      simp only [Bool.and_eq_true] at g
      obtain rfl := beq_str g.1.1.1
      obtain ⟨q, hq, e⟩ := List.any_eq_true.mp g.2
      have e := of_decide_eq_true e
      subst e
      exact ⟨_, _, _, rfl, g.1.1.2, g.1.2, hq⟩
    · cases h
  · cases h
/-- try: body except C as n: m = n; its body -/
def trykF (nm : List Cn) (N : List Str) (sc : Scope) (es : List Str) (c : Str) (i j : Nat) : Stmt → Option (List Stmt)
  | .Try body [.ExceptHandler (some (.Name x _)) (some n) [.Assign [.Name m _] (.Name n' _) _] _] [] [] _ => if (x == c && glB sc x && decide (N[i]? = some n) && decide (N[j]? = some m) && n' == n && decide (i ≠ j) && lkB sc n .local && lkB sc m .local &&
      !(n == ("__debug__" : Str)) && !(n == ("__classdict__" : Str)) && nm.any (fun q => match q with | .xs rs ts => es.all (fun a => rs.contains a) && !rs.isEmpty && ts.contains c | _ => false)) = true then some body else none
  | _ => none
theorem raiB_inv {nm : List Cn} {sc : Scope} {c : Str} {t : Stmt} (h : raiB nm sc c t = true) : ∃ p m j p2 p3 pos, t = .Raise (some (.Call (.Name c p) [.Constant (.str m) j p2] [] p3)) none pos ∧ glB sc c = true ∧ .er c ∈ nm := by
  unfold raiB at h
  split at h
  · simp only [Bool.and_eq_true] at h
    obtain rfl := beq_str h.1.1
    obtain ⟨q, hq, e⟩ := List.any_eq_true.mp h.2
    have e := of_decide_eq_true e
    subst e
    exact ⟨_, _, _, _, _, _, rfl, h.1.2, hq⟩
  · cases h
theorem trykF_inv {nm : List Cn} {N : List Str} {sc : Scope} {es : List Str} {c : Str} {i j : Nat} {t : Stmt} {body : List Stmt} (h : trykF nm N sc es c i j t = some body) :
    ∃ np n m p1 p2 p3 pos' pos rs ts, t = .Try body [.ExceptHandler (some (.Name c np)) (some n) [.Assign [.Name m p1] (.Name n p2) p3] pos'] [] [] pos ∧ glB sc c = true ∧ N[i]? = some n ∧ N[j]? = some m ∧ i ≠ j ∧ lkB sc n .local = true ∧ lkB sc m .local = true ∧
      (n == ("__debug__" : Str)) = false ∧ (n == ("__classdict__" : Str)) = false ∧ .xs rs ts ∈ nm ∧ (∀ a ∈ es, a ∈ rs) ∧ c ∈ ts ∧ rs ≠ [] := by
  unfold trykF at h
  split at h
  · split at h
    · rename_i g
      cases h
      simp only [Bool.and_eq_true] at g
      obtain ⟨⟨⟨⟨⟨⟨⟨⟨⟨⟨h1, h2⟩, h3⟩, h4⟩, h5⟩, h6⟩, h7⟩, h8⟩, h9⟩, h10⟩, h11⟩ := g
      obtain rfl := beq_str h1
      obtain rfl := beq_str h5
      obtain ⟨q, hq, e⟩ := List.any_eq_true.mp h11
      cases q with
      | xs rs ts =>
        have e : (es.all (fun a => rs.contains a) && !rs.isEmpty && ts.contains _) = true := e
        simp only [Bool.and_eq_true] at e
        exact ⟨_, _, _, _, _, _, _, _, rs, ts, rfl, h2, of_decide_eq_true h3, of_decide_eq_true h4, of_decide_eq_true h6, h7, h8, by simpa using h9, by simpa using h10, hq, fun a ha => by simpa using List.all_eq_true.mp e.1.1 a ha, by simpa using e.2, fun z => by rw [z] at e; exact absurd e.1.2 (by simp)⟩
      | _ => cases e
    · cases h
  · cases h
def isCmp : Ex → Bool
  | .comp _ _ _ _ _ => true
  | _ => false
def asgOk (sc : Scope) (tg a : Expr) : Bool := (nComp a && stNo sc tg a)
mutual
def mtS (nm : List Cn) (cs : List (Str × PV)) (N : List Str) (sc : Scope) : Sm → Stmt → Bool
  | .set t e, .Assign [tg] a _ => mtT N (tkD sc) t tg && mtE nm cs N sc e a && (asgOk sc tg a || (swLc sc tg a && isCmp e) || clLc sc tg a)
  | .par i j x y, .Assign [.Tuple [.Name n px, .Name n2 py] kt pt] (.Tuple [a, b] _ _) _ => decide (N[i]? = some n) && decide (N[j]? = some n2) && decide (i ≠ j) && lkB sc n .local && lkB sc n2 .local && nStar a && nStar b && swYes sc [.Name n px, .Name n2 py] [a, b] && decide (swNms sc [.Name n px, .Name n2 py] = [n, n2]) && mtE nm cs N sc x a && mtE nm cs N sc y b
  | .par3 i j l x y z, .Assign [.Tuple [.Name n px, .Name n2 py, .Name n3 pz] kt pt] (.Tuple [a, b, c] _ _) _ => decide (N[i]? = some n) && decide (N[j]? = some n2) && decide (N[l]? = some n3) && decide (i ≠ j ∧ i ≠ l ∧ j ≠ l) && lkB sc n .local && lkB sc n2 .local && lkB sc n3 .local && nStar a && nStar b && nStar c && swYes sc [.Name n px, .Name n2 py, .Name n3 pz] [a, b, c] && decide (swNms sc [.Name n px, .Name n2 py, .Name n3 pz] = [n, n2, n3]) && mtE nm cs N sc x a && mtE nm cs N sc y b && mtE nm cs N sc z c
  | .sto o i e, .Assign [.Subscript a b _] c _ => mtE nm cs N sc o a && mtE nm cs N sc i b && mtE nm cs N sc e c
  | .stf x c f z, .Assign [.Attribute (.Name y p) g _] v _ => g == f && nm.any (fun q => match q with | .cl c' fs => c' == c && fs.contains f | _ => false) && mtE nm cs N sc x (.Name y p) && mtE nm cs N sc z v
  | .augi x y o e, .AugAssign (.Subscript a b _) p v _ => decide (o = p) && (decide (o = .Add) || decide (o = .Sub)) && noSl b && mtE nm cs N sc x a && mtE nm cs N sc y b && mtE nm cs N sc e v
  | .aug i o e, .AugAssign (.Name x _) p a _ => decide (o = p) && (decide (o = .Add) || decide (o = .Sub)) && decide (N[i]? = some x) && tkD sc x && mtE nm cs N sc e a
  | .exp e, .Expr a _ => nComp a && mtE nm cs N sc e a
  | .ret e, .Return (some a) _ => mtE nm cs N sc e a
  | .retN, .Return none _ => true
  | .ife c x y, .If t a b _ => mtE nm cs N sc c t && mtSs nm cs N sc x a && mtSs nm cs N sc y b
  | .whl c x, .While t a [] _ => mtE nm cs N sc c t && mtSs nm cs N sc x a
  | .for_ t it x, .For tg ir a [] _ => mtT N (tkD sc) t tg && mtI nm cs N sc it tg ir && nSet ir && mtSs nm cs N sc x a
  | .rai c, t => raiB nm sc c t
  | .raf c f e, t => (match rafE nm sc c f t with | some a => mtE nm cs N sc e a | none => false)
  | .tryk b es c i j, t => (match trykF nm N sc es c i j t with | some body => mtSs nm cs N sc b body | none => false)
  | .lcs i x, t => mtS nm cs N sc x t
  | .brk, .Break _ => true
  | .cnt, .Continue _ => true
  | .pss, .Pass _ => true
  | .doc, .Expr (.Constant (.str _) _ _) _ => true
  | .nev, _ => true
  | _, _ => false
termination_by structural s => s
def mtSs (nm : List Cn) (cs : List (Str × PV)) (N : List Str) (sc : Scope) : List Sm → List Stmt → Bool
  | [], [] => true
  | s :: ss, t :: ts => mtS nm cs N sc s t && mtSs nm cs N sc ss ts
  | _, _ => false
termination_by structural s => s
end

structure Gods (X : Cx) (W : WX) (nm : List Cn) (cs : List (Str × PV)) (Γ : List Spec) : Prop extends Good X W nm cs Γ where
  po : PassesOwn (model X.prog X.w) X.A X.env X.xe
  all : ∀ x, X.fn x = true
  kind : X.env.scope.kind = .function
  hs : X.stack = X.env :: X.outer
  hf : X.env.frame = some X.env.locals
  hex : X.ex = []
def SS (Γ : List Spec) (nm : List Cn) (cs : List (Str × PV)) (s : Sm) : Prop := ∀ (X : Cx) (W : WX) (t : Stmt), Gods X W nm cs Γ → mtS nm cs X.N X.env.scope s t = true → PS X t (LS X W (wS Γ s))
def SSs (Γ : List Spec) (nm : List Cn) (cs : List (Str × PV)) (s : List Sm) : Prop := ∀ (X : Cx) (W : WX) (t : List Stmt), Gods X W nm cs Γ → mtSs nm cs X.N X.env.scope s t = true → PSs X t (LS X W (wSs Γ s))
section
variable {X : Cx} {W : WX} {nm : List Cn} {cs : List (Str × PV)} {Γ : List Spec}
theorem Gods.bk (G : Gods X W nm cs Γ) : X.env.blockKind = .function := by unfold Env.blockKind; rw [G.kind]; rfl
theorem stNo_ok (G : Gods X W nm cs Γ) {tg a : Expr} (h : stNo X.env.scope tg a = true) : swappedStores [tg] a X.env = pure none ∧ (assignEach [tg] X.env).map (·.2) = [assign tg X.env] := by
  match tg, a, h with
  | .Tuple ts k p, .Tuple vs k2 p2, h => exact ⟨sw_no G.bk h, rfl⟩
  | .Name y p, _, _ => exact ⟨rfl, rfl⟩
  | .Tuple ts k p, .BoolOp .., h => exact ⟨rfl, rfl⟩
  | .Tuple ts k p, .NamedExpr .., h => exact ⟨rfl, rfl⟩
  | .Tuple ts k p, .BinOp .., h => exact ⟨rfl, rfl⟩
  | .Tuple ts k p, .UnaryOp .., h => exact ⟨rfl, rfl⟩
  | .Tuple ts k p, .Lambda .., h => exact ⟨rfl, rfl⟩
  | .Tuple ts k p, .IfExp .., h => exact ⟨rfl, rfl⟩
  | .Tuple ts k p, .Dict .., h => exact ⟨rfl, rfl⟩
  | .Tuple ts k p, .Set .., h => exact ⟨rfl, rfl⟩
  | .Tuple ts k p, .ListComp .., h => exact ⟨rfl, rfl⟩
  | .Tuple ts k p, .SetComp .., h => exact ⟨rfl, rfl⟩
  | .Tuple ts k p, .DictComp .., h => exact ⟨rfl, rfl⟩
  | .Tuple ts k p, .GeneratorExp .., h => exact ⟨rfl, rfl⟩
  | .Tuple ts k p, .Await .., h => exact ⟨rfl, rfl⟩
  | .Tuple ts k p, .Yield .., h => exact ⟨rfl, rfl⟩
  | .Tuple ts k p, .YieldFrom .., h => exact ⟨rfl, rfl⟩
  | .Tuple ts k p, .Compare .., h => exact ⟨rfl, rfl⟩
  | .Tuple ts k p, .Call .., h => exact ⟨rfl, rfl⟩
  | .Tuple ts k p, .FormattedValue .., h => exact ⟨rfl, rfl⟩
  | .Tuple ts k p, .JoinedStr .., h => exact ⟨rfl, rfl⟩
  | .Tuple ts k p, .Constant .., h => exact ⟨rfl, rfl⟩
  | .Tuple ts k p, .Attribute .., h => exact ⟨rfl, rfl⟩
  | .Tuple ts k p, .Subscript .., h => exact ⟨rfl, rfl⟩
  | .Tuple ts k p, .Starred .., h => exact ⟨rfl, rfl⟩
  | .Tuple ts k p, .Name .., h => exact ⟨rfl, rfl⟩
  | .Tuple ts k p, .List .., h => exact ⟨rfl, rfl⟩
  | .Tuple ts k p, .Slice .., h => exact ⟨rfl, rfl⟩
theorem set_comp {own : List Nat} {t : Tg} {c : Option Ex} {x y : Ex} {i : Nat} {nme : Str} {py pos spos : Pos} {el : Expr} {gens : List Comprehension} {scope : Scope} (G' : Gods X W nm cs Γ) (hyi : X.N[i]? = some nme) (hyl : X.env.scope.names.lookup nme = some .local)
    (hsw : swapsWith (.ListComp el gens scope pos) (some (.Name nme py)) spos.line X.env = pure true) (h : mtE nm cs X.N X.env.scope (.comp own t x c y) (.ListComp el gens scope pos) = true) :
    PS X (.Assign [.Name nme py] (.ListComp el gens scope pos) spos) (LS X W (wS Γ (.set (.nm i) (.comp own t x c y)))) := by
    have G := G'.toGood
    have hi : SI Γ nm cs x := (okA x).i
    have hc : SC Γ nm cs c := fun z ez => ((okO c).m z ez).t
    have he : SE Γ nm cs y := (okA y).e
    have close : ∀ (D : Ends) (σ : L2.St) (H : Hp), LS X W (wS Γ (.set (.nm i) (.comp own t x c y))) D σ H → LE X W (wE Γ (.comp own t x c y)) σ H fun v H1 => gName i v σ H1 D.nx := by
      intro D σ H ⟨ρ, σz, h, Dd, s, k, w⟩
      refine ⟨ρ, σz, h, fun r h1 => Dd.nx (σz.set i (some r)) h1, _, s, fun r h' ρ' H' v n hr rp w' => ?_, k.kx s, w⟩
      exact k.nx ρ' (σz.set i (some r)) h' (σ.set i (some v)) H' n ((s.nx n hr).set i rp) w'
    obtain ⟨tg, ir, ifs, rfl⟩ : ∃ tg ir ifs, gens = [⟨tg, ir, ifs, 0⟩] := by
      match gens, h with
      | [⟨tg, ir, ifs, 0⟩], _ => exact ⟨tg, ir, ifs, rfl⟩
    · have h : (L2.blkC X.N X.env.scope scope (ownP X.N own) && decide ((ownP X.N own).map (·.2) = own) && (slotsT t).all (fun i => own.contains i) && mtT X.N (tkB scope X.env.scope) t tg && mtI nm cs X.N X.env.scope x tg ir &&
        mtC nm cs X.N (L2.relS scope X.env.scope) c ifs && mtE nm cs X.N (L2.relS scope X.env.scope) y el && nSet ir) = true := h
      simp only [Bool.and_eq_true] at h
      obtain ⟨⟨⟨⟨⟨⟨⟨h1, h2⟩, h3⟩, h4⟩, h5⟩, h6⟩, h7⟩, h8⟩ := h
      have e2 := of_decide_eq_true h2
      have sub : ∀ j ∈ slotsT t, j ∈ own := fun j hj => by
        have q := List.all_eq_true.mp h3 j hj
        simpa using q
      have pg : ∀ (s : Shared) (H : Hp) (C : Addr) (cl : List (Str × Addr)) (fp : List Addr), PG (X.blk s H scope (compEnvC scope cl C X.env) fp) tg (LG X t) := fun s H C cl fp =>
        pg_imp (sG (X := X.blk s H scope (compEnvC scope cl C X.env) fp) G.calm G.nd (tkB_ok s H scope C cl fp) t tg h4) fun v σ H Q q => q.blk
      have pe : ∀ (s : Shared) (H : Hp) (C : Addr) (cl : List (Str × Addr)) (fp : List Addr), PE (X.blk s H scope (compEnvC scope cl C X.env) fp) el (LE X (fun _ _ _ _ => False) (wE Γ y)) := fun s H C cl fp =>
        pe_imp (he (X.blk s H scope (compEnvC scope cl C X.env) fp) _ el (G.blk s H scope _ fp) h7) fun σ H Q q => q.blk
      clear h
      match c, ifs with
      | none, [] =>
        refine ps_imp (ps_setLc G.calm G.nd hyi hyl hsw (hi X W tg ir G h5) (blkOk_by h1) pg (fun _ _ _ _ _ => pts_nil) pe (fun v => folded_of h8 _ v)) fun D σ H q => ?_
        rw [e2]
        have q := close D σ H q
        refine le_comp (it := x) (co := none) sub (fun σ H Q q => ?_) (fun σ H Q q => q) σ H _ q
        obtain ⟨ρ, σz, h, F, E, sr, kq, kx, w⟩ := q
        exact kq true h ρ H .refl sr.hr w
      | some c, [f] =>
        have pt : ∀ (s : Shared) (H : Hp) (C : Addr) (cl : List (Str × Addr)) (fp : List Addr), PT (X.blk s H scope (compEnvC scope cl C X.env) fp) f (LT X (fun _ _ _ _ => False) (wT Γ c)) := fun s H C cl fp =>
          pt_imp (hc c rfl (X.blk s H scope (compEnvC scope cl C X.env) fp) _ f (G.blk s H scope _ fp) h6) fun σ H Q q => q.blk
        refine ps_imp (ps_setLc G.calm G.nd hyi hyl hsw (hi X W tg ir G h5) (blkOk_by h1) pg (fun s H C cl fp => pts_one (pt s H C cl fp)) pe (fun v => folded_of h8 _ v)) fun D σ H q => ?_
        rw [e2]
        have q := close D σ H q
        refine le_comp (it := x) (co := some c) sub (fun σ H Q q => ?_) (fun σ H Q q => q) σ H _ q
        obtain ⟨ρ, σz, h, F, E, sr, kq, kx, w⟩ := q
        exact ⟨ρ, σz, h, F, noX, sr, kq, KXok.no, w⟩
      | none, _ :: _ => cases h6
      | some _, [] => cases h6
      | some _, _ :: _ :: _ => cases h6
theorem sw_cell {env : PySem.Env} {y : Str} {py lp : Pos} {el : Expr} {gens : List Comprehension} {scope : Scope} {l : Nat} (h : env.scope.names.lookup y = some .cell) : swapsWithSole [.Name y py] (.ListComp el gens scope lp) l env = pure false := by
  have k : (env.kindOf y == some NameKind.local) = false := by
    unfold Env.kindOf
    rw [h]; rfl
  show (pure (env.blockKind == .function && env.kindOf y == some .local && py.line == lp.line && !(scope.names.any fun (n, k) => n == y && (k == .local || k == .cell))) : Sem Bool) = pure false
  rw [k, Bool.and_false]
  rfl
theorem os_set {t : Tg} {e : Ex} : SS Γ nm cs (.set t e) := fun X W st G h => by
  cases st with
  | Assign tgs a pos =>
    match tgs, h with
    | [tg], h =>
      have h : (mtT X.N (tkD X.env.scope) t tg && mtE nm cs X.N X.env.scope e a && (asgOk X.env.scope tg a || (swLc X.env.scope tg a && isCmp e) || clLc X.env.scope tg a)) = true := h
      simp only [Bool.and_eq_true] at h
      obtain ⟨⟨h1, h2⟩, h3⟩ := h
      have pg := sG G.calm G.nd (tkD_ok G.all) t tg h1
      cases e1 : asgOk X.env.scope tg a with
      | true =>
        unfold asgOk at e1
        rw [Bool.and_eq_true] at e1
        obtain ⟨q1, q2⟩ := stNo_ok G e1.2
        exact zs_set ((okA e).e X W a G.toGood h2) pg (swap_no e1.1 _ _ _) q1 q2
      | false =>
        rw [e1, Bool.false_or] at h3
        cases e4 : clLc X.env.scope tg a with
        | true =>
          match tg, a, e4, pg with
          | .Name y py, .ListComp el gens scope lp, e4, pg =>
            have e4 : X.env.scope.names.lookup y = some .cell := of_decide_eq_true e4
            exact zs_set ((okA e).e X W _ G.toGood h2) pg (sw_cell e4) rfl rfl
        | false =>
        rw [e4, Bool.or_false, Bool.and_eq_true] at h3
        obtain ⟨h3, hcmp⟩ := h3
        match tg, a, h3 with
        | .Name y py, .ListComp el gens scope lp, h3 =>
          have h3 : (lkB X.env.scope y .local && py.line == lp.line && !(scope.names.any fun (n, k) => n == y && (k == .local || k == .cell))) = true := h3
          simp only [Bool.and_eq_true, Bool.not_eq_true'] at h3
          obtain ⟨⟨h4, h5⟩, h6⟩ := h3
          have yl : X.env.scope.names.lookup y = some .local := of_decide_eq_true h4
          have sw := sw_true (elt := el) (gs := gens) (l := pos.line) G.kind yl h5 h6
          cases t with
          | tp _ => cases h1
          | nm i =>
            have h1 : (decide (X.N[i]? = some y) && tkD X.env.scope y) = true := h1
            rw [Bool.and_eq_true] at h1
            cases e with
            | comp own t x c z => exact set_comp G (of_decide_eq_true h1.1) yl sw h2
            | _ => cases hcmp
  | _ => cases h
theorem os_par {i j : Nat} {x y : Ex} : SS Γ nm cs (.par i j x y) := fun X W st G h => by
  cases st with
  | Assign tgs v pos =>
    match tgs, v, h with
    | [.Tuple [.Name n px, .Name n2 py] kt pt], .Tuple [a, b] k2 pt2, h =>
      have h : (decide (X.N[i]? = some n) && decide (X.N[j]? = some n2) && decide (i ≠ j) && lkB X.env.scope n .local && lkB X.env.scope n2 .local && nStar a && nStar b && swYes X.env.scope [.Name n px, .Name n2 py] [a, b] && decide (swNms X.env.scope [.Name n px, .Name n2 py] = [n, n2]) && mtE nm cs X.N X.env.scope x a && mtE nm cs X.N X.env.scope y b) = true := h
      simp only [Bool.and_eq_true] at h
      obtain ⟨⟨⟨⟨⟨⟨⟨⟨⟨⟨h1, h2⟩, h3⟩, h4⟩, h5⟩, h6⟩, h7⟩, h8⟩, h9⟩, h10⟩, h11⟩ := h
      have sw := sw_yes (k := kt) (p := pt) (k2 := k2) (p2 := pt2) G.bk h8
      rw [of_decide_eq_true h9] at sw
      exact zs_par G.calm G.nd (of_decide_eq_true h1) (of_decide_eq_true h2) (of_decide_eq_true h3) (of_decide_eq_true h4) (of_decide_eq_true h5) ((okA x).e X W a G.toGood h10) ((okA y).e X W b G.toGood h11) (star_of h6 _ _) (star_of h7 _ _) sw
  | _ => cases h
theorem os_par3 {i j l : Nat} {x y z : Ex} : SS Γ nm cs (.par3 i j l x y z) := fun X W st G h => by
  cases st with
  | Assign tgs v pos =>
    match tgs, v, h with
    | [.Tuple [.Name n px, .Name n2 py, .Name n3 pz] kt pt], .Tuple [a, b, c] k2 pt2, h =>
      have h : (decide (X.N[i]? = some n) && decide (X.N[j]? = some n2) && decide (X.N[l]? = some n3) && decide (i ≠ j ∧ i ≠ l ∧ j ≠ l) && lkB X.env.scope n .local && lkB X.env.scope n2 .local && lkB X.env.scope n3 .local && nStar a && nStar b && nStar c && swYes X.env.scope [.Name n px, .Name n2 py, .Name n3 pz] [a, b, c] && decide (swNms X.env.scope [.Name n px, .Name n2 py, .Name n3 pz] = [n, n2, n3]) && mtE nm cs X.N X.env.scope x a && mtE nm cs X.N X.env.scope y b && mtE nm cs X.N X.env.scope z c) = true := h
      simp only [Bool.and_eq_true] at h
      obtain ⟨⟨⟨⟨⟨⟨⟨⟨⟨⟨⟨⟨⟨⟨h1, h2⟩, h3⟩, h4⟩, h5⟩, h6⟩, h7⟩, s1⟩, s2⟩, s3⟩, h8⟩, h9⟩, e1⟩, e2⟩, e3⟩ := h
      obtain ⟨d1, d2, d3⟩ := of_decide_eq_true h4
      have sw := sw_yes (k := kt) (p := pt) (k2 := k2) (p2 := pt2) G.bk h8
      rw [of_decide_eq_true h9] at sw
      exact zs_par3 G.calm G.nd (of_decide_eq_true h1) (of_decide_eq_true h2) (of_decide_eq_true h3) d1 d2 d3 (of_decide_eq_true h5) (of_decide_eq_true h6) (of_decide_eq_true h7) ((okA x).e X W a G.toGood e1) ((okA y).e X W b G.toGood e2) ((okA z).e X W c G.toGood e3) (star_of s1 _ _) (star_of s2 _ _) (star_of s3 _ _) sw
  | _ => cases h
theorem os_sto {x y z : Ex} : SS Γ nm cs (.sto x y z) := fun X W st G h => by
  cases st with
  | Assign tgs v pos =>
    match tgs, h with
    | [.Subscript a b p2], h =>
      have h : (mtE nm cs X.N X.env.scope x a && mtE nm cs X.N X.env.scope y b && mtE nm cs X.N X.env.scope z v) = true := h
      simp only [Bool.and_eq_true] at h
      exact zs_sto (by have := G.un; omega) ((okA z).e X W v G.toGood h.2) ((okA x).e X W a G.toGood h.1.1) ((okA y).e X W b G.toGood h.1.2) (by cases v <;> rfl)
  | _ => cases h
theorem os_stf {x z : Ex} {c f : Str} : SS Γ nm cs (.stf x c f z) := fun X W st G h => by
  cases st with
  | Assign tgs v pos =>
    match tgs, h with
    | [.Attribute (.Name y p) g p2], h =>
      have h : (g == f && nm.any (fun q => match q with | .cl c' fs => c' == c && fs.contains f | _ => false) && mtE nm cs X.N X.env.scope x (.Name y p) && mtE nm cs X.N X.env.scope z v) = true := h
      simp only [Bool.and_eq_true] at h
      obtain ⟨⟨⟨h1, h2⟩, h3⟩, h4⟩ := h
      obtain rfl : g = f := by simpa using h1
      obtain ⟨i, fl, e, hf⟩ := any_cl h2
      obtain ⟨S, _, cr⟩ := G.fn i _ e
      exact zs_stf cr hf ((okA z).e X W v G.toGood h4) ((okA x).e X W _ G.toGood h3) (by cases v <;> rfl)
  | _ => cases h
theorem os_augi {x y z : Ex} {o : Operator} : SS Γ nm cs (.augi x y o z) := fun X W st G h => by
  cases st with
  | AugAssign tg p v pos =>
    cases tg with
    | Subscript a b p2 =>
      have h : (decide (o = p) && (decide (o = .Add) || decide (o = .Sub)) && noSl b && mtE nm cs X.N X.env.scope x a && mtE nm cs X.N X.env.scope y b && mtE nm cs X.N X.env.scope z v) = true := h
      simp only [Bool.and_eq_true] at h
      obtain ⟨⟨⟨⟨⟨h1, h2⟩, hb⟩, h3⟩, h4⟩, h5⟩ := h
      obtain rfl := of_decide_eq_true h1
      rw [Bool.or_eq_true] at h2
      exact zs_augi hb (h2.imp of_decide_eq_true of_decide_eq_true) (by have := G.un; omega) ((okA x).e X W a G.toGood h3) ((okA y).e X W b G.toGood h4) ((okA z).e X W v G.toGood h5)
    | _ => cases h
  | _ => cases h
theorem os_aug {i : Nat} {o : Operator} {x : Ex} : SS Γ nm cs (.aug i o x) := fun X W st G h => by
  cases st with
  | AugAssign tg p a pos =>
    cases tg with
    | Name n np =>
      have h : (decide (o = p) && (decide (o = .Add) || decide (o = .Sub)) && decide (X.N[i]? = some n) && tkD X.env.scope n && mtE nm cs X.N X.env.scope x a) = true := h
      simp only [Bool.and_eq_true] at h
      obtain ⟨⟨⟨⟨h1, h2⟩, h3⟩, h4⟩, h5⟩ := h
      obtain rfl := of_decide_eq_true h1
      obtain ⟨t1, t2⟩ := tkD_ok G.all n h4
      refine zs_aug ?_ G.nd (of_decide_eq_true h3) t1 t2 ((okA x).e X W a G.toGood h5)
      rw [Bool.or_eq_true] at h2
      exact h2.imp of_decide_eq_true of_decide_eq_true
    | _ => cases h
  | _ => cases h
theorem ok_rai {c : Str} {t : Stmt} (G : Gods X W nm cs Γ) (h : raiB nm X.env.scope c t = true) : PS X t (LS X W (wS Γ (.rai c))) := by
  obtain ⟨p, m, j, p2, p3, pos, rfl, g, hq⟩ := raiB_inv h
  obtain ⟨g1, g2⟩ := gl_of g
  obtain ⟨k, hk⟩ := List.mem_iff_getElem?.mp hq
  obtain ⟨S, _, er⟩ := G.fn k _ hk
  exact zs_rai er G.calm G.tk g1 g2
theorem ok_raf {c f : Str} {x : Ex} {t : Stmt} (hx : SE Γ nm cs x) (G : Gods X W nm cs Γ) (h : (match rafE nm X.env.scope c f t with | some a => mtE nm cs X.N X.env.scope x a | none => false) = true) : PS X t (LS X W (wS Γ (.raf c f x))) := by
  cases q : rafE nm X.env.scope c f t with
  | none => rw [q] at h; cases h
  | some a =>
    rw [q] at h
    obtain ⟨p, p3, pos, rfl, g, st, hq⟩ := rafE_inv q
    obtain ⟨g1, g2⟩ := gl_of g
    obtain ⟨k, hk⟩ := List.mem_iff_getElem?.mp hq
    obtain ⟨S, _, er⟩ := G.fn k _ hk
    exact zs_raf er G.calm G.tk g1 g2 (hx X W a G.toGood h) fun r => star_of st r X.env
theorem sr_tr {X : Cx} {pn : List (Addr × Obj)} {xe : Value → Shared → Prop} {ρ : List Addr} {σz : Env} {h : Hep} {σ : L2.St} {H : Hp} (s : SR X ρ σz h σ H) : SR (X.tr pn xe) ρ σz h σ H := ⟨s.hr, s.len, s.sl⟩
theorem sr_un {X : Cx} {pn : List (Addr × Obj)} {xe : Value → Shared → Prop} {ρ : List Addr} {σz : Env} {h : Hep} {σ : L2.St} {H : Hp} (s : SR (X.tr pn xe) ρ σz h σ H) : SR X ρ σz h σ H := ⟨s.hr, s.len, s.sl⟩
theorem ls_tr {X : Cx} {pn : List (Addr × Obj)} {xe : Value → Shared → Prop} {W : WX} {w : Env → Hep → Dz → Prop} (D : Ends) (σ : L2.St) (H : Hp) (q : LS X W w D σ H) : LS (X.tr pn xe) W w D σ H := by
  obtain ⟨ρ, σz, h, Dd, s, k, w⟩ := q
  exact ⟨ρ, σz, h, Dd, sr_tr s, ⟨fun a b c d e n s' => k.nx a b c d e n (sr_un s'), fun a b c d e n s' => k.bk a b c d e n (sr_un s'), fun a b c d e n s' => k.ct a b c d e n (sr_un s'), k.rt, fun a b c d e f g i n s' => k.ex a b c d e f g i n (sr_un s')⟩, w⟩
theorem ok_tryk {b : List Sm} {es : List Str} {c : Str} {i j : Nat} {t : Stmt} (hb : SSs Γ nm cs b) (G : Gods X W nm cs Γ) (h : (match trykF nm X.N X.env.scope es c i j t with | some body => mtSs nm cs X.N X.env.scope b body | none => false) = true) : PS X t (LS X W (wS Γ (.tryk b es c i j))) := by
  cases q : trykF nm X.N X.env.scope es c i j t with
  | none => rw [q] at h; cases h
  | some body =>
    rw [q] at h
    obtain ⟨np, n, m, p1, p2, p3, pos', pos, rs, ts, rfl, h2, h3, h4, h6, h7, h8, h9, h10, hq, hes, hct, hrs⟩ := trykF_inv q
    obtain ⟨g1, g2⟩ := gl_of h2
    obtain ⟨k, hk⟩ := List.mem_iff_getElem?.mp hq
    obtain ⟨S, _, xr⟩ := G.fn k _ hk
    refine zs_tryk xr hes hct G.hs G.hf G.hex G.nd h3 h4 h6 (of_decide_eq_true h7) (of_decide_eq_true h8) g1 g2 h9 h10 G.tk hrs fun W' pn xe tk' po' => ?_
    exact pss_imp (hb (X.tr pn xe) W' body { calm := G.calm, nd := G.nd, un := G.un, tk := tk', bl := G.bl, fn := fun i x e => G.fn i x e, cn := G.cn, po := po', all := G.all, kind := G.kind, hs := G.hs, hf := G.hf, hex := G.hex } h) ls_tr
mutual
theorem okS : ∀ s : Sm, SS Γ nm cs s
  | .set t e => os_set
  | .par i j a b => os_par
  | .par3 i j l a b c => os_par3
  | .sto o i e => os_sto
  | .stf o c f e => os_stf
  | .aug i o e => os_aug
  | .augi a i o e => os_augi
  | .exp e => fun X W st G h => by
    cases st with
    | Expr a pos =>
      have h : (nComp a && mtE nm cs X.N X.env.scope e a) = true := h
      rw [Bool.and_eq_true] at h
      exact zs_exp ((okA e).e X W a G.toGood h.2) (swap_no h.1 _ _ _)
    | _ => cases h
  | .lcs i s => fun X W st G h => zs_lcs (okS s X _ st { toGood := G.toGood.none, po := G.po, all := G.all, kind := G.kind, hs := G.hs, hf := G.hf, hex := G.hex } h)
  | .ret e => fun X W st G h => by
    cases st with
    | Return a pos =>
      cases a with
      | some a => exact zs_ret ((okA e).e X W a G.toGood h)
      | none => cases h
    | _ => cases h
  | .retN => fun X W st G h => by
    cases st with
    | Return a pos =>
      cases a with
      | none => exact zs_retN
      | some a => cases h
    | _ => cases h
  | .ife c x y => 
    have hx := okSs x
    have hy := okSs y
    fun X W st G h => by
    cases st with
    | If t a b pos =>
      have h : (mtE nm cs X.N X.env.scope c t && mtSs nm cs X.N X.env.scope x a && mtSs nm cs X.N X.env.scope y b) = true := h
      simp only [Bool.and_eq_true] at h
      exact zs_ife ((okA c).t X W t G.toGood h.1.1) (hx X W a G h.1.2) (hy X W b G h.2)
    | _ => cases h
  | .whl c x => 
    have hx := okSs x
    fun X W st G h => by
    cases st with
    | While t a e pos =>
      cases e with
      | nil =>
        have h : (mtE nm cs X.N X.env.scope c t && mtSs nm cs X.N X.env.scope x a) = true := h
        simp only [Bool.and_eq_true] at h
        exact zs_whl G.po ((okA c).t X W t G.toGood h.1) (hx X W a G h.2)
      | cons _ _ => cases h
    | _ => cases h
  | .for_ t it x => 
    have hx := okSs x
    fun X W st G h => by
    cases st with
    | For tg ir a e pos =>
      cases e with
      | nil =>
        have h : (mtT X.N (tkD X.env.scope) t tg && mtI nm cs X.N X.env.scope it tg ir && nSet ir && mtSs nm cs X.N X.env.scope x a) = true := h
        simp only [Bool.and_eq_true] at h
        exact zs_for G.po G.calm ((okA it).i X W tg ir G.toGood h.1.1.2) (sG G.calm G.nd (tkD_ok G.all) t tg h.1.1.1) (hx X W a G h.2) (fun v => folded_of h.1.2 _ v)
      | cons _ _ => cases h
    | _ => cases h
  | .rai c => fun X W st G h => ok_rai G h
  | .raf c f e => fun X W st G h => ok_raf (okA e).e G h
  | .tryk b es c i j =>
    have hb := okSs b
    fun X W st G h => ok_tryk hb G h
  | .brk => fun X W st G h => by
    cases st with
    | Break pos => exact zs_brk
    | _ => cases h
  | .cnt => fun X W st G h => by
    cases st with
    | Continue pos => exact zs_cnt
    | _ => cases h
  | .pss => fun X W st G h => by
    cases st with
    | Pass pos => exact zs_pss
    | _ => cases h
  | .doc => fun X W st G h => by
    cases st with
    | Expr a pos =>
      cases a with
      | Constant c j p =>
        cases c with
        | str z => exact zs_doc
        | _ => cases h
      | _ => cases h
    | _ => cases h
  | .nev => fun X W st G h => zs_nev
termination_by structural s => s
theorem okSs : ∀ s : List Sm, SSs Γ nm cs s
  | [] => fun X W st G h => by
    cases st with
    | nil => exact zss_nil
    | cons _ _ => cases h
  | s :: ss =>
    have hs := okS s
    have hss := okSs ss
    fun X W st G h => by
    cases st with
    | nil => cases h
    | cons t ts =>
      have h : (mtS nm cs X.N X.env.scope s t && mtSs nm cs X.N X.env.scope ss ts) = true := h
      rw [Bool.and_eq_true] at h
      exact zss_cons (hs X W t G h.1) (hss X W ts G h.2)
termination_by structural s => s
end
end
end Z

/-! ZsP: defs, the law's end. -/
namespace Z
open PySem PyProof.Rows L2

section
variable {P : Program} {w : World} {K : PySem.W.Frag} {mg : Str → Option Value} {base : Heap}
/-- a def that may be called with k rooms -/
def FnR (P : Program) (w : World) (K : PySem.W.Frag) (mg : Str → Option Value) (base : Heap) (k : Nat) (x : Str) (S : Spec) : Prop := ∃ (f : Addr) (fd : FuncData) (ps : List Str) (j : Nat) (sp : Sp) (ds : List Value) (dvs : List V), mg x = some (.ref f) ∧ PySem.W.keepIn K (.ref f) = true ∧
  FnOk P w K mg base (L2.CX P w) j f fd ps sp ∧ j ≤ k ∧ Binds K fd ps ds ∧ Vals dvs ds ∧ ∀ vs H Q E, lift K mg S vs H Q E → sp (vs ++ dvs) H Q E
/-- a method of a class -/
def MeR (P : Program) (w : World) (K : PySem.W.Frag) (mg : Str → Option Value) (base : Heap) (k : Nat) (c m : Str) (S : Spec) : Prop := ∃ (C f : Addr) (fd : FuncData) (ps : List Str) (j : Nat) (sp : Sp) (ds : List Value) (dvs : List V), mg c = some (.ref C) ∧ Cls K C ∧ Meth K C m f ∧
  FnOk P w K mg base (L2.CX P w) j f fd ps sp ∧ j ≤ k ∧ Binds K fd ps ds ∧ Vals dvs ds ∧ ∀ vs H Q E, lift K mg S vs H Q E → sp (vs ++ dvs) H Q E
/-- a class called: its __init__ -/
def NwR (P : Program) (w : World) (K : PySem.W.Frag) (mg : Str → Option Value) (base : Heap) (k : Nat) (c : Str) (S : Spec) : Prop := ∃ (C f : Addr) (fd : FuncData) (ps : List Str) (j : Nat) (sp : Sp) (ds : List Value) (dvs : List V), mg c = some (.ref C) ∧ Mk K C f ∧
  FnOk P w K mg base (L2.CX P w) j f fd ps sp ∧ j + 1 ≤ k ∧ Binds K fd ps ds ∧ Vals dvs ds ∧ ∀ vs H Q E, lift K mg S vs H Q E → sp (vs ++ dvs) H Q E
def ClR (K : PySem.W.Frag) (mg : Str → Option Value) (c : Str) (fs : List Str) : Prop := ∃ C : Addr, mg c = some (.ref C) ∧ Cls K C ∧ ∀ f ∈ fs, NoAttr K C f
def ErR (K : PySem.W.Frag) (mg : Str → Option Value) (c : Str) : Prop := ∃ C : Addr, mg c = some (.ref C) ∧ PySem.W.nsIn K mainGlobals c = some (some (.ref C)) ∧ PySem.W.excIn K C PySem.HandSPX.veTail "ValueError.__new__" = true ∧ PySem.W.keepIn K (.ref C) = true ∧
  PySem.W.subIn K (.ref C) (.type "BaseException") = some true ∧ PySem.W.typeIn K (.ref C) = some (.type "type")
def XnR (mg : Str → Option Value) (c : Str) (cv : Value) : Prop := mg c = some cv ∨ (mg c = none ∧ bootBuiltins c = some cv ∧ c ≠ "__name__")
def XsR (K : PySem.W.Frag) (mg : Str → Option Value) (rs ts : List Str) : Prop := ∀ a ∈ rs, ∃ C : Addr, PySem.W.nsIn K mainGlobals a = some (some (.ref C)) ∧ L2.ExcC K C ∧
  ∀ c ∈ ts, ∃ cv : Value, XnR mg c cv ∧ PySem.W.exmOne K (.ref C) cv = some (subX a c) ∧ PySem.W.kitOne K (.ref C) cv = some (subX a c)
def EiR (P : Program) (w : World) (K : PySem.W.Frag) (mg : Str → Option Value) (base : Heap) (k : Nat) (c f : Str) : Prop := ∃ (C fI : Addr) (fd : FuncData) (ps : List Str) (j : Nat), mg c = some (.ref C) ∧ PySem.W.nsIn K mainGlobals c = some (some (.ref C)) ∧ OexC K C ∧ PySem.W.findIn K (.ref C) f = some none ∧
  PySem.W.findIn K (.ref C) "__init__" = some (some (.ref fI)) ∧ PySem.W.typeIn K (.ref fI) = some (.type "function") ∧ FnOk P w K mg base (L2.CX P w) j fI fd ps (Zh.spInit K f) ∧ j + 1 ≤ k ∧ Binds K fd ps []
def XfR (K : PySem.W.Frag) (c f : Str) : Prop := ∃ C : Addr, PySem.W.nsIn K mainGlobals c = some (some (.ref C)) ∧ L2.XfC K C ∧ PySem.W.findIn K (.ref C) f = some none
def CnR (P : Program) (w : World) (K : PySem.W.Frag) (mg : Str → Option Value) (base : Heap) (k : Nat) : Cn → Spec → Prop
  | .fn x, S => FnR P w K mg base k x S
  | .me c m, S => MeR P w K mg base k c m S
  | .mk c, S => NwR P w K mg base k c S
  | .cl c fs, _ => ClR K mg c fs
  | .er c, _ => ErR K mg c
  | .xs rs ts, _ => XsR K mg rs ts
  | .ei c f, _ => EiR P w K mg base k c f
  | .xf c f, _ => XfR K c f
  | .gd, _ => False
theorem FnR.imp {k : Nat} {x : Str} {S S' : Spec} (h : FnR P w K mg base k x S) (q : ∀ args h F E, S' args h F E → S args h F E) : FnR P w K mg base k x S' := by
  obtain ⟨f, fd, ps, j, sp, ds, dvs, h1, h2, h3, h4, h5, h6, h7⟩ := h
  refine ⟨f, fd, ps, j, sp, ds, dvs, h1, h2, h3, h4, h5, h6, fun vs H Q E l => h7 vs H Q E ?_⟩
  obtain ⟨ρ, h, xs, F, E, r, ps, kq, kx, s⟩ := l
  exact ⟨ρ, h, xs, F, E, r, ps, kq, kx, q _ _ _ _ s⟩
theorem FnR.mono {k k' : Nat} {x : Str} {S : Spec} (h : FnR P w K mg base k x S) (q : k ≤ k') : FnR P w K mg base k' x S := by
  obtain ⟨f, fd, ps, j, sp, ds, dvs, h1, h2, h3, h4, h5, h6, h7⟩ := h
  exact ⟨f, fd, ps, j, sp, ds, dvs, h1, h2, h3, by omega, h5, h6, h7⟩
theorem start_get (N : List Str) (args : List PV) (vs : List V) (h : args.length = vs.length) (i : Nat) (x : PV) (e : (args.map some ++ List.replicate (N.length - args.length) none)[i]? = some (some x)) : args[i]? = some x := by
  by_cases l : i < args.length
  · rw [List.getElem?_append_left (by rw [List.length_map]; exact l), List.getElem?_map] at e
    cases g : args[i]? with
    | none => rw [g] at e; cases e
    | some y => rw [g] at e; cases e; rfl
  · rw [List.getElem?_append_right (by rw [List.length_map]; omega), List.getElem?_replicate] at e
    split at e <;> cases e
/-- the frame at the entry -/
def enter (n : Nat) (args : List PV) : Env := args.map some ++ List.replicate (n - args.length) none
/-- what a body must do -/
def Meets (Γ : List Spec) (n m : Nat) (ir : List Sm) (S : Spec) : Prop := ∀ args h F E, S args h F E → args.length = m ∧ wSs Γ ir (enter n args) h { nx := fun _ h' => F .non h', rt := F, ex := fun x _ h' => E x h' }
/-- what a def's body does, run in its frame -/
theorem body_ok {qual : Str} {st : Stmt} {f : Addr} {N ps : List Str} {k : Nat} {S : Spec} {nm : List Cn} {cs : List (Str × PV)} {Γ : List Spec} {ir : List Sm} {A : Around} {cdv : Value} {outer : List PySem.Env} {s : Shared} {H : Hp} {vs : List V} {Q : VK} {E : XK} (sc : FnScope N ps (defScope st))
    (look : mtSs nm cs N (defScope st) ir (defBody st) = true) (hbl : ∀ n ∈ blts, mg n = none) (hfn : ∀ (i : Nat) (g : Cn), nm[i]? = some g → ∃ T, Γ[i]? = some T ∧ ((g = .gd ∧ A.guards = some []) ∨ CnR P w K mg base k g T))
    (hcs : ∀ p ∈ cs, ∃ (u : Value) (t : V), mg p.1 = some u ∧ RelV t u ∧ ∀ (ρ : List Addr) (H : Hp), Rep K ρ H p.2 t) (meets : Meets Γ N.length ps.length ir S) (hr : Room k (A.deeper (envOfC qual (defScope st) s.heap.objs.size f cdv))) (h : lift K mg S vs H Q E) :
    ∃ t, PSs (cxOf (L2.CX P w) P w K mg base N qual (defScope st) f cdv A outer s H E) (defBody st) t ∧ t { nx := fun _ H' => Q .non H', rt := Q } (L2.start N vs) H := by
  let X := cxOf (L2.CX P w) P w K mg base N qual (defScope st) f cdv A outer s H E
  have tk : Takes X (fun cls d _ H => E cls d H) := takes_of rfl rfl rfl rfl
  have G : Gods X (fun cls d _ H => E cls d H) nm cs Γ :=
    { calm := rfl
      nd := sc.nd
      un := by have := hr.un; show (A.deeper _).units + 65 < cLine; omega
      tk := tk
      bl := hbl
      fn := fun i g e => by
        obtain ⟨T, eT, q⟩ := hfn i g e
        refine ⟨T, eT, ?_⟩
        rcases q with ⟨rfl, q⟩ | q
        · exact q
        match g, q with
        | .fn _, q =>
          obtain ⟨f, fd, ps, j, sp, ds, dvs, h1, h2, h3, h4, h5, h6, h7⟩ := q
          exact ⟨f, fd, ps, j, sp, ds, dvs, h1, h2, h3, hr.mono h4, h5, h6, h7⟩
        | .me _ _, q =>
          obtain ⟨C, f, fd, ps, j, sp, ds, dvs, h1, h2, h2', h3, h4, h5, h6, h7⟩ := q
          exact ⟨C, f, fd, ps, j, sp, ds, dvs, h1, h2, h2', h3, hr.mono h4, h5, h6, h7⟩
        | .mk _, q =>
          obtain ⟨C, f, fd, ps, j, sp, ds, dvs, h1, h2, h3, h4, h5, h6, h7⟩ := q
          exact ⟨C, f, fd, ps, j, sp, ds, dvs, h1, h2, h3, hr.mono h4, h5, h6, h7⟩
        | .cl _ _, q => exact q
        | .er _, q => exact q
        | .xs _ _, q => exact q
        | .xf _ _, q => exact q
        | .gd, q => exact q.elim
        | .ei _ _, q =>
          obtain ⟨C, fI, fd, ps, j, h1, h2, h3, h4, h5, h6, h7, h8, h9⟩ := q
          exact ⟨C, fI, fd, ps, j, h1, h2, h3, h4, h5, h6, h7, hr.mono h8, h9⟩
      cn := fun p hp => hcs p hp
      po := passes_of rfl
      all := fun _ => rfl
      kind := sc.kind
      hs := rfl
      hf := rfl
      hex := rfl }
  obtain ⟨ρ, h, xs, F, E', r, rs, kq, kx, sp⟩ := h
  obtain ⟨hl, m⟩ := meets _ _ _ _ sp
  refine ⟨_, okSs ir X _ (defBody st) G look, ?_⟩
  refine ⟨ρ, enter N.length xs, h, { nx := fun _ h' => F .non h', rt := F, ex := fun x _ h' => E' x h' }, ⟨r, ?_, fun i y e => ?_⟩, ⟨fun ρ' σz' h' σ' H' n s w => ?_, fun _ _ _ _ _ _ _ w => False.elim w, fun _ _ _ _ _ _ _ w => False.elim w, fun r' h' ρ' H' v n hr' rp w => ?_, fun x ρ' σz' h' σ' H' cls d n s xr w => ?_⟩, m⟩
  · unfold enter L2.start
    simp [rs.len]
  · have q := start_get N xs vs rs.len i y e
    obtain ⟨v, g, p⟩ := rs.get q
    refine ⟨v, ?_, p⟩
    unfold L2.start
    rw [List.getElem?_append_left (by rw [List.length_map]; exact (List.getElem?_eq_some_iff.mp g).1), List.getElem?_map, g]
    rfl
  · exact kq .non h' ρ' H' .non n s.hr rfl w
  · exact kq r' h' ρ' H' v n hr' rp w
  · exact kx x h' ρ' H' cls d n s.hr xr w
theorem def_ok {x qual : Str} {st : Stmt} {f : Addr} {fd : FuncData} {N ps : List Str} {k : Nat} {S : Spec} {nm : List Cn} {cs : List (Str × PV)} {Γ : List Spec} {ir : List Sm} (F : Fun K x qual st f fd) (sc : FnScope N ps (defScope st))
    (look : mtSs nm cs N (defScope st) ir (defBody st) = true) (hbl : ∀ n ∈ blts, mg n = none) (hfn : ∀ (i : Nat) (g : Cn), nm[i]? = some g → ∃ T, Γ[i]? = some T ∧ CnR P w K mg base k g T)
    (hcs : ∀ p ∈ cs, ∃ (u : Value) (t : V), mg p.1 = some u ∧ RelV t u ∧ ∀ (ρ : List Addr) (H : Hp), Rep K ρ H p.2 t) (meets : Meets Γ N.length ps.length ir S) : FnOk P w K mg base (L2.CX P w) (k + 1) f fd ps (lift K mg S) := by
  refine F.okX sc (fun vs H Q E h => ?_) (fun cdv A outer s H vs Q E hr h => body_ok sc look hbl (fun i g e => (hfn i g e).imp fun T q => ⟨q.1, .inr q.2⟩) hcs meets hr h)
  obtain ⟨ρ, h, xs, F, E, r, ps, kq, kx, s⟩ := h
  rw [← ps.len]
  exact (meets _ _ _ _ s).1
/-- the law's own def, where it leans on nothing being shown -/
theorem def_top {x qual p : Str} {st : Stmt} {f : Addr} {fd : FuncData} {N : List Str} {k : Nat} {S : Spec} {nm : List Cn} {cs : List (Str × PV)} {Γ : List Spec} {ir : List Sm} (F : Fun K x qual st f fd) (sc : FnScope N [p] (defScope st)) (room : Room (k + 1) callerA)
    (look : mtSs nm cs N (defScope st) ir (defBody st) = true) (hbl : ∀ n ∈ blts, mg n = none) (hfn : ∀ (i : Nat) (g : Cn), nm[i]? = some g → ∃ T, Γ[i]? = some T ∧ (g = .gd ∨ CnR P w K mg base k g T))
    (hcs : ∀ p ∈ cs, ∃ (u : Value) (t : V), mg p.1 = some u ∧ RelV t u ∧ ∀ (ρ : List Addr) (H : Hp), Rep K ρ H p.2 t) (meets : Meets Γ N.length 1 ir S) : Zh.TopOk P w K mg base (L2.CX P w) f fd p (lift K mg S) := by
  obtain ⟨oc, od, kV, doc, pm, an, cdv, ct, osl, rfl, lk, hcd⟩ := F.ex
  exact Zh.top_of lk hcd sc (room.mono (by omega)) fun s H v Q E want => body_ok (ps := [p]) sc look hbl (fun i g e => (hfn i g e).imp fun T q => ⟨q.1, q.2.imp (fun z => ⟨z, rfl⟩) id⟩) hcs meets (room.deeper _) want
theorem top_imp {f : Addr} {fd : FuncData} {p : Str} {sp sp' : Sp} (F : Zh.TopOk P w K mg base (L2.CX P w) f fd p sp) (h : ∀ vs H Q E, sp' vs H Q E → sp vs H Q E) : Zh.TopOk P w K mg base (L2.CX P w) f fd p sp' :=
  fun s H u v Q E a b c d => F s H u v Q E a b c (h _ _ _ _ d)
/-- a def without defaults, in place -/
theorem fnr_of {x : Str} {f : Addr} {fd : FuncData} {ps : List Str} {k : Nat} {S : Spec} (hm : mg x = some (.ref f)) (kp : PySem.W.keepIn K (.ref f) = true) (F : FnOk P w K mg base (L2.CX P w) k f fd ps (lift K mg S)) (b : Binds K fd ps []) : FnR P w K mg base k x S :=
  ⟨f, fd, ps, k, _, [], [], hm, kp, F, Nat.le_refl _, b, .nil, fun vs H Q E h => by rw [List.append_nil]; exact h⟩
/-- the law's own promise -/
def spLaw (n : Nat) : Spec := fun args h F _ => ∃ ns : List Int, args = [.ils (ns.map PV.int)] ∧ h = [] ∧ ns.length ≤ n ∧ ∀ h', F (.bl true) h'
theorem reps_ints (ρ : List Addr) (H : Hp) : ∀ ns : List Int, Reps K ρ H (ns.map PV.int) (ns.map V.int)
  | [] => rfl
  | n :: ns => ⟨.int n, ns.map V.int, rfl, rfl, reps_ints ρ H ns⟩
theorem law_head {n : Nat} (H : Hp) (a : Addr) (ns : List Int) (hl : ns.length ≤ n) (ho : Only H) (hs : SqL K H a (ns.map V.int)) : lift K mg (spLaw n) [.ref a] H (fun v _ => v = .bl true) fun _ _ _ => False := by
  refine ⟨[], [], [.ils (ns.map PV.int)], fun v _ => v = .bl true, noX, ⟨rfl, List.nodup_nil, fun i o a e => by cases e⟩, ⟨_, [], rfl, ⟨a, _, rfl, ?_, reps_ints [] H ns⟩, rfl⟩, ?_, fun _ _ _ _ _ _ _ _ _ z => z.elim, ns, rfl, rfl, hl, fun h' => rfl⟩
  · rcases hs with (h | ⟨o, h⟩) | h
    · rcases ho a with q | ⟨o, xs, q⟩
      · rw [h] at q; cases q
      · rw [h] at q; cases q
    · exact .inl ⟨o, h⟩
    · exact .inr (.inr h)
  · intro r h' ρ' H' v _ _ rp e
    subst e
    exact rp
/-- the law's promise, without the top's names -/
def spL (K : PySem.W.Frag) : Sp := fun vs H Q E => ∀ mg : Str → Option Value, lift K mg (spLaw 63) vs H Q E
theorem law_spL {H : Hp} {a : Addr} {ns : List Int} (hl : ns.length ≤ 63) (ho : Only H) (hs : SqL K H a (ns.map V.int)) : spL K [.ref a] H (fun v _ => v = .bl true) fun _ _ _ => False := fun mg => law_head H a ns hl ho hs
theorem fn_spL {f : Addr} {fd : FuncData} {ps : List Str} {k : Nat} (F : FnOk P w K mg base (L2.CX P w) k f fd ps (lift K mg (spLaw 63))) : FnOk P w K mg base (L2.CX P w) k f fd ps (spL K) :=
  F.imp fun vs H Q E h => h mg
theorem top_spL {f : Addr} {fd : FuncData} {p : Str} (F : Zh.TopOk P w K mg base (L2.CX P w) f fd p (lift K mg (spLaw 63))) : Zh.TopOk P w K mg base (L2.CX P w) f fd p (spL K) := top_imp F fun vs H Q E h => h mg
theorem no_exc {P : Program} {w : World} {H : Hp} {s s1 : Shared} {e : Value} (z : L2.CX P w [] H s (fun _ _ _ => False) e s1) : False := by
  obtain ⟨_, _, _, _, _, _, _, _, _, _, _, _, z⟩ := z
  exact z
end
end Z

/-! ZsR: an error class's own __init__. -/
namespace Z
open PySem PyProof.Rows L2
/-- what stands for a class among the callees -/
def noS : Spec := fun _ _ _ _ => False
/-- what the clause and isinstance ask of two classes of one's own -/
theorem xs_own {K : PySem.W.Frag} {C D : Addr} {b : Bool} (h1 : PySem.W.subIn K (.ref D) (.type "BaseException") = some true) (hd : PySem.W.hasDictIn K D = true) (ht : PySem.W.typeIn K (.ref D) = some (.type "type")) (h4 : PySem.W.subIn K (.ref C) (.ref D) = some b) (hne : b = false → C ≠ D) :
    PySem.W.exmOne K (.ref C) (.ref D) = some b ∧ PySem.W.kitOne K (.ref C) (.ref D) = some b := by
  refine ⟨PySem.W.exm_ref h1 hd ht h4, ?_⟩
  unfold PySem.W.kitOne
  by_cases e : C = D
  · subst e
    rw [if_pos (beq_self_eq_true _)]
    cases b with
    | true => rfl
    | false => exact absurd rfl (hne rfl)
  · rw [if_neg (by rw [beq_iff_eq]; intro z; exact e (Value.ref.inj z))]
    obtain ⟨cd, hc, _⟩ := PySem.W.any_some hd
    unfold PySem.W.kitCls
    dsimp only
    rw [if_pos (by rw [hc, ht] <;> rfl)]
    exact h4
theorem xs_blt {K : PySem.W.Frag} {C : Addr} {b : Bool} (h4 : PySem.W.subIn K (.ref C) (.type "ValueError") = some b) (h1 : PySem.W.subIn K (.type "ValueError") (.type "BaseException") = some true) : PySem.W.exmOne K (.ref C) (.type "ValueError") = some b ∧ PySem.W.kitOne K (.ref C) (.type "ValueError") = some b := by
  have m : PySem.W.kitMeta "ValueError" = true := by decide +kernel
  have k : PySem.W.kitCls K (.ref C) (.type "ValueError") = some b := by
    unfold PySem.W.kitCls
    dsimp only
    rw [if_pos m]
    exact h4
  constructor
  · unfold PySem.W.exmOne
    rw [if_pos (by rw [h1] <;> rfl)]
    exact k
  · unfold PySem.W.kitOne
    rw [if_neg (by rw [beq_iff_eq]; intro z; cases z)]
    exact k
/-- Base.__init__(self, 'text'); self.f = f -/
def initB (c fld : Str) (sc : Scope) : List Stmt → Bool
  | [.Expr (.Call (.Attribute (.Name x _) m apos) [.Name s _, .Constant (.str _) _ _] [] pos) _, .Assign [.Attribute (.Name s2 _) g _] (.Name v _) _] =>
    x == c && m == ("__init__" : Str) && s == ("self" : Str) && s2 == ("self" : Str) && g == fld && v == fld && glB sc c && visB sc "self" && visB sc fld && apos.endLine == pos.line && !(fld == ("__debug__" : Str)) && !(fld == ("__classdict__" : Str))
  | _ => false
theorem initB_inv {c fld : Str} {sc : Scope} {b : List Stmt} (h : initB c fld sc b = true) : ∃ p1 apos p3 t j p4 pos p5 p6 p7 p8 p9,
    b = [.Expr (.Call (.Attribute (.Name c p1) "__init__" apos) [.Name "self" p3, .Constant (.str t) j p4] [] pos) p5, .Assign [.Attribute (.Name "self" p6) fld p7] (.Name fld p8) p9] ∧ glB sc c = true ∧ visB sc "self" = true ∧ visB sc fld = true ∧ (apos.endLine == pos.line) = true ∧
      (fld == ("__debug__" : Str)) = false ∧ (fld == ("__classdict__" : Str)) = false := by
  unfold initB at h
  split at h
  · simp only [Bool.and_eq_true] at h
    obtain ⟨⟨⟨⟨⟨⟨⟨⟨⟨⟨⟨h1, h2⟩, h3⟩, h4⟩, h5⟩, h6⟩, h7⟩, h8⟩, h9⟩, h10⟩, h11⟩, h12⟩ := h
    obtain rfl := beq_str h1
    obtain rfl := beq_str h2
    obtain rfl := beq_str h3
    obtain rfl := beq_str h4
    obtain rfl := beq_str h5
    obtain rfl := beq_str h6
    exact ⟨_, _, _, _, _, _, _, _, _, _, _, _, rfl, h7, h8, h9, h10, by simpa using h11, by simpa using h12⟩
  · cases h
section
variable {P : Program} {w : World} {K : PySem.W.Frag} {mg : Str → Option Value} {base : Heap}
theorem init_ok {x qual : Str} {st : Stmt} {f : Addr} {fd : FuncData} {c fld : Str} {P0 : Addr} {k : Nat} (F : Fun K x qual st f fd) (sc : FnScope ["self", fld] ["self", fld] (defScope st)) (hb : initB c fld (defScope st) (defBody st) = true) (hm : mg c = some (.ref P0)) (B : Zh.BaseC K P0) :
    FnOk P w K mg base (L2.CX P w) (k + 1) f fd ["self", fld] (Zh.spInit K fld) := by
  obtain ⟨p1, apos, p3, t, j, p4, pos, p5, p6, p7, p8, p9, eb, g, vs, vf, hl, hd, hcd⟩ := initB_inv hb
  refine F.okX sc (fun us H Q E h => ?_) (fun cdv A outer s H us Q E hr h => ?_)
  · obtain ⟨a, C, y, rfl, _⟩ := h
    rfl
  · let X := cxOf (L2.CX P w) P w K mg base ["self", fld] qual (defScope st) f cdv A outer s H E
    have gc : Gl X c ∧ (c == ("__debug__" : Str)) = false := gl_of (X := X) g
    have pself : ∀ q, PE X (.Name "self" q) (tVar 0) := fun q => pe_var rfl (vis_of (X := X) vs)
    have pfld : ∀ q, PE X (.Name fld q) (tVar 1) := fun q => pe_var rfl (vis_of (X := X) vf) hd hcd
    have args : PA X [.Name "self" p3, .Constant (.str t) j p4] (tCons (tVar 0) (tCons (tC (.str t)) tNil)) := pa_cons (pself p3) (pa_cons pe_str pa_nil)
    have stars : ∀ a ∈ [Expr.Name "self" p3, .Constant (.str t) j p4], ∀ r, starEach (a :: r) X.env = (false, eval a X.env) :: starEach r X.env := by
      intro a ha r
      simp only [List.mem_cons, List.not_mem_nil, or_false] at ha
      rcases ha with rfl | rfl <;> rfl
    have call : PE X (.Call (.Attribute (.Name c p1) "__init__" apos) [.Name "self" p3, .Constant (.str t) j p4] [] pos) (tVeI X.K (tCons (tVar 0) (tCons (tC (.str t)) tNil))) :=
      Zh.pe_binit (pl := (do return (← importBound (.Name c p1) X.env).getD true)) gc.1 hm gc.2 B args (by
        rw [arm_eval_Call, attr_of (e := .Name c p1) rfl]
        have lt : [Expr.Name "self" p3, .Constant (.str t) j p4].length < 30 := by show 2 < 30; decide
        simp only [mcall_eq (form_of lt stars) hl]) rfl rfl
    rw [eb]
    refine ⟨_, pss_cons (ps_expr call rfl) (pss_cons (ps_ost (pself p6) (pfld p8) rfl) pss_nil), ?_⟩
    obtain ⟨a, C, y, rfl, T, hno, ea, k⟩ := h
    refine ⟨.ref a, rfl, ?_⟩
    refine ⟨a, C, [.str t], rfl, (by show 1 ≤ 1000; decide), T, ea, ?_⟩
    refine ⟨y, rfl, ?_⟩
    refine ⟨.ref a, rfl, ?_⟩
    exact ⟨a, C, rfl, T, hno, .inl ⟨ea, fun dx n ne => k dx n ne⟩⟩
/-- a def of which nothing is promised -/
theorem fnr_none {P : Program} {w : World} {K : PySem.W.Frag} {mg : Str → Option Value} {base : Heap} {x qual : Str} {st : Stmt} {f : Addr} {fd : FuncData} {N ps : List Str} (F : Fun K x qual st f fd) (sc : FnScope N ps (defScope st)) (hm : mg x = some (.ref f)) (kp : PySem.W.keepIn K (.ref f) = true) (b : Binds K fd ps []) : FnR P w K mg base 1 x noS :=
  fnr_of hm kp (F.okX (k := 0) sc (fun vs H Q E h => by obtain ⟨ρ, h, xs, F, E, r, ps, kq, kx, s⟩ := h; exact False.elim s) (fun cdv A outer s H vs Q E hr h => by obtain ⟨ρ, h, xs, F, E, r, ps, kq, kx, s⟩ := h; exact False.elim s)) b
end
end Z

/-! ZsQ: plain lemmas for the proofs over Z's conditions. -/
namespace Z
open PySem

/-! ### heaps that grow -/
def Ext (h h' : Hep) : Prop := ∀ (q : Nat) (o : Ob), h[q]? = some o → h'[q]? = some o
def ExtB (d : Nat) (h h' : Hep) : Prop := h.length ≤ h'.length ∧ ∀ (q : Nat) (o : Ob), q ≠ d → h[q]? = some o → h'[q]? = some o
theorem Ext.rfl' {h : Hep} : Ext h h := fun _ _ e => e
theorem Ext.trans {h h1 h2 : Hep} (a : Ext h h1) (b : Ext h1 h2) : Ext h h2 := fun q o e => b q o (a q o e)
theorem app_get {h j : Hep} {q : Nat} {o : Ob} (e : h[q]? = some o) : (h ++ j)[q]? = some o := by
  rw [List.getElem?_append_left (List.getElem?_eq_some_iff.mp e).1]; exact e
theorem Ext.app {h j : Hep} : Ext h (h ++ j) := fun _ _ e => app_get e
theorem Ext.len {h h' : Hep} (a : Ext h h') : h.length ≤ h'.length := by
  apply Nat.le_of_not_lt
  intro l
  have hl : h'.length < h.length := l
  have e := a h'.length (h[h'.length]) (List.getElem?_eq_getElem hl)
  rw [List.getElem?_eq_none (Nat.le_refl _)] at e
  cases e
theorem lt_of_get {h : Hep} {q : Nat} {o : Ob} (e : h[q]? = some o) : q < h.length := (List.getElem?_eq_some_iff.mp e).1
theorem new_get {h : Hep} {o : Ob} : (h ++ [o])[h.length]? = some o := by simp
theorem set_get {h : Hep} {q : Nat} {o o' : Ob} (e : h[q]? = some o) : (h.set q o')[q]? = some o' := List.getElem?_set_self (lt_of_get e)
theorem ExtB.set {h : Hep} {d : Nat} {o : Ob} : ExtB d h (h.set d o) := ⟨by simp, fun q o' n e => by rw [List.getElem?_set_ne (Ne.symm n)]; exact e⟩
theorem Ext.b {h h' : Hep} {d : Nat} (a : Ext h h') : ExtB d h h' := ⟨a.len, fun q o _ e => a q o e⟩
theorem ExtB.trans {h h1 h2 : Hep} {d : Nat} (a : ExtB d h h1) (b : ExtB d h1 h2) : ExtB d h h2 := ⟨Nat.le_trans a.1 b.1, fun q o n e => b.2 q o n (a.2 q o n e)⟩
/-- what was there ahead of a fresh thing -/
theorem ExtB.ext {h h1 h2 : Hep} {d : Nat} (a : Ext h h1) (b : ExtB d h1 h2) (n : h.length ≤ d) : Ext h h2 := fun q o e => b.2 q o (by have := lt_of_get e; omega) (a q o e)

theorem wSs_nil {Γ : List Spec} {σ : Env} {h : Hep} {D : Dz} : wSs Γ [] σ h D = D.nx σ h := rfl
theorem wSs_step {Γ : List Spec} {s : Sm} {r : List Sm} {σ : Env} {h : Hep} {D : Dz} (w : wS Γ s σ h { D with nx := fun σ' h' => wSs Γ r σ' h' D }) : wSs Γ (s :: r) σ h D := w
/-! ### loops -/
theorem wFor_ind {g : Grd} {t : Tg} {b : Env → Hep → Dz → Prop} {D : Dz} (I : List PV → Env → Hep → Prop) :
    ∀ (items : List PV) (σ : Env) (h : Hep), I items σ h →
    (∀ x r σ h, I (x :: r) σ h → grdOk h g ∧ ∃ σ', tgt t x σ = some σ' ∧ ∀ K : Env → Hep → Prop, (∀ σ2 h2, I r σ2 h2 → K σ2 h2) → b σ' h { D with nx := K, ct := K, bk := D.nx }) →
    (∀ σ h, I [] σ h → grdOk h g ∧ D.nx σ h) → wFor g t b items σ h D
  | [], σ, h, i, _, e => e σ h i
  | x :: r, σ, h, i, s, e => by
    obtain ⟨gk, σ', et, k⟩ := s x r σ h i
    refine ⟨gk, ?_⟩
    rw [et]
    exact k _ fun σ2 h2 i2 => wFor_ind I r σ2 h2 i2 s e
theorem wComp_ind {g : Grd} {t : Tg} {c : Env → Hep → KB → Prop} {e : Env → Hep → KQ → Prop} {σ : Env} {F : List PV → Hep → Prop} (I : List PV → List PV → Hep → Prop) :
    ∀ (items acc : List PV) (h : Hep), I items acc h →
    (∀ x r acc h, I (x :: r) acc h → grdOk h g ∧ ∃ σ', tgt t x σ = some σ' ∧ ∀ K : List PV → Hep → Prop, (∀ acc2 h2, I r acc2 h2 → K acc2 h2) → c σ' h fun b h1 => if b = true then e σ' h1 fun y h2 => acc.length < big ∧ K (acc ++ [y]) h2 else K acc h1) →
    (∀ acc h, I [] acc h → grdOk h g ∧ F acc h) → wComp g t c e σ items acc h F
  | [], acc, h, i, _, z => z acc h i
  | x :: r, acc, h, i, s, z => by
    obtain ⟨gk, σ', et, k⟩ := s x r acc h i
    refine ⟨gk, ?_⟩
    rw [et]
    exact k (fun acc2 h2 => wComp g t c e σ r acc2 h2 F) fun acc2 h2 i2 => wComp_ind I r acc2 h2 i2 s z

/-! ### data -/
theorem eqW_of {h : Hep} {x y : PV} {d e : PyData} {K : Bool → Prop} (e1 : dat h 60 x = some d) (e2 : dat h 60 y = some e) (c1 : d.canLay0 = true) (c2 : e.canLay0 = true) (k : K (PyData.eqv d e)) : eqW h x y K :=
  .inl ⟨d, e, e1, e2, dat_shaped (by decide) e1 c1, dat_shaped (by decide) e2 c2, k⟩
/-- two texts -/
theorem eqW_txt {h : Hep} {s t : Str} {K : Bool → Prop} (k : K (s == t)) : eqW h (.str s) (.str t) K := .inr (.inl ⟨s, t, rfl, rfl, k⟩)
/-- of any thing: a text? nothing? -/
theorem eqW_odd {h : Hep} {x y : PV} {b : Bool} {K : Bool → Prop} (o : oddE h x y b) (k : K b) : eqW h x y K := .inr (.inr ⟨b, o, k⟩)
theorem eqW_tnil {h : Hep} {xs : List PV} {K : Bool → Prop} (k : K xs.isEmpty) : eqW h (.itp xs) (.itp []) K := eqW_odd (.inr (.inr (.inl ⟨xs, rfl, rfl, rfl⟩))) k
theorem eqW_lnil {h : Hep} {r q : Nat} {xs : List PV} {K : Bool → Prop} (e1 : h[r]? = some (.lst xs)) (e2 : h[q]? = some (.lst [])) (k : K xs.isEmpty) : eqW h (.ref r) (.ref q) K := eqW_odd (.inr (.inr (.inr ⟨r, q, xs, rfl, rfl, e1, e2, rfl⟩))) k
theorem eqW_same {h : Hep} {x y : PV} {d : PyData} {K : Bool → Prop} (e1 : dat h 60 x = some d) (e2 : dat h 60 y = some d) (c : d.canLay0 = true) (k : K true) : eqW h x y K :=
  eqW_of e1 e2 c c (by rw [SeqAt.eqv_refl d c]; exact k)
theorem lay_ints : ∀ ns : List Int, PyData.canLayAll0 (ns.map PyData.int) = true
  | [] => rfl
  | n :: ns => lay_ints ns
theorem lay_pairs : ∀ ps : List (Int × Int), PyData.canLayAll0 (ps.map fun p => PyData.tuple [.int p.1, .int p.2]) = true
  | [] => rfl
  | n :: ns => lay_pairs ns
theorem eqW_int {h : Hep} {i j : Int} {K : Bool → Prop} : eqW h (.int i) (.int j) K ↔ K (i == j) := by
  refine ⟨fun q => ?_, fun k => eqW_of rfl rfl rfl rfl k⟩
  rcases q with ⟨d, e, h1, h2, _, _, k⟩ | ⟨_, _, h1, _⟩ | ⟨_, ⟨_, _, h1, _⟩ | ⟨_, _, h1, _⟩ | ⟨_, h1, _⟩ | ⟨_, _, _, h1, _⟩, _⟩
  · cases h1; cases h2; exact k
  all_goals cases h1
theorem datAll_ints {f : PV → Option PyData} (hf : ∀ i, f (.int i) = some (.int i)) : ∀ ns : List Int, datAll f (ns.map PV.int) = some (ns.map PyData.int)
  | [] => rfl
  | n :: ns => by rw [List.map_cons, datAll, hf, datAll_ints hf ns]; rfl
theorem dat_int (h : Hep) (n : Nat) (i : Int) : dat h n (.int i) = some (.int i) := by cases n <;> rfl
theorem dat_lst {h : Hep} {n r : Nat} {xs : List PV} {ds : List PyData} (e : h[r]? = some (.lst xs)) (k : datAll (dat h n) xs = some ds) : dat h (n + 1) (.ref r) = some (.list ds) := by
  rw [dat, e]
  show (datAll (dat h n) xs).map PyData.list = _
  rw [k]; rfl
theorem dat_ints {h : Hep} {n r : Nat} {ns : List Int} (e : h[r]? = some (.lst (ns.map PV.int))) : dat h (n + 1) (.ref r) = some (.list (ns.map PyData.int)) := dat_lst e (datAll_ints (dat_int h n) ns)
/-- a list of pairs of ints -/
def pairV (p : Int × Int) : PV := .tup [.int p.1, .int p.2]
theorem datAll_pairs {h : Hep} {n : Nat} : ∀ ps : List (Int × Int), datAll (dat h (n + 1)) (ps.map pairV) = some (ps.map fun p => PyData.tuple [.int p.1, .int p.2])
  | [] => rfl
  | p :: ps => by
    rw [List.map_cons, datAll, datAll_pairs ps]
    show (match (datAll (dat h n) [.int p.1, .int p.2]).map PyData.tuple, _ with | some d, some ds => some (d :: ds) | _, _ => none) = _
    rw [show datAll (dat h n) [.int p.1, .int p.2] = some [.int p.1, .int p.2] from datAll_ints (dat_int h n) [p.1, p.2]]
    rfl
theorem eqv_ints : ∀ ns ms : List Int, PyData.eqvAll (ns.map PyData.int) (ms.map PyData.int) = (ns == ms)
  | [], [] => rfl
  | [], _ :: _ => rfl
  | _ :: _, [] => rfl
  | n :: ns, m :: ms => by
    show (PyData.eqv (.int n) (.int m) && PyData.eqvAll (ns.map PyData.int) (ms.map PyData.int)) = _
    rw [eqv_ints ns ms]
    show ((n == m) && (ns == ms)) = _
    rfl
/-- l == [] -/
theorem eqW_empty {h : Hep} {r q : Nat} {ns : List Int} {K : Bool → Prop} (e1 : h[r]? = some (.lst (ns.map PV.int))) (e2 : h[q]? = some (.lst [])) (k : K ns.isEmpty) : eqW h (.ref r) (.ref q) K := by
  refine eqW_of (dat_ints e1) (dat_ints (ns := []) e2) (lay_ints ns) rfl ?_
  show K (PyData.eqvAll (ns.map PyData.int) (([] : List Int).map PyData.int))
  rw [eqv_ints]
  cases ns <;> exact k
theorem eqW_iempty {h : Hep} {q : Nat} {ns : List Int} {K : Bool → Prop} (e2 : h[q]? = some (.lst [])) (k : K ns.isEmpty) : eqW h (.ils (ns.map PV.int)) (.ref q) K := by
  refine eqW_of (d := .list (ns.map PyData.int)) ?_ (dat_ints (ns := []) e2) (lay_ints ns) rfl ?_
  · show (datAll (dat h 59) (ns.map PV.int)).map PyData.list = _
    rw [datAll_ints (dat_int h 59)]; rfl
  · show K (PyData.eqvAll (ns.map PyData.int) (([] : List Int).map PyData.int))
    rw [eqv_ints]
    cases ns <;> exact k

/-! ### lists of ints -/
theorem intsOf_map : ∀ ns : List Int, intsOf (ns.map PV.int) = some ns
  | [] => rfl
  | n :: ns => by rw [List.map_cons, intsOf, intsOf_map ns]; rfl
theorem boolsOf_map : ∀ ns : List Bool, boolsOf (ns.map PV.bl) = some ns
  | [] => rfl
  | n :: ns => by rw [List.map_cons, boolsOf, boolsOf_map ns]; rfl
theorem ixN_nat {n i : Nat} (h : i < n) : ixN n (i : Int) = some i := by
  show (if (0 : Int) ≤ (i : Int) then (if (i : Int) < (n : Int) then some (i : Int).toNat else none) else _) = some i
  rw [if_pos (by omega), if_pos (by omega), Int.toNat_natCast]
theorem ixN_int {n : Nat} {i : Int} (h : 0 ≤ i) (h2 : i < n) : ixN n i = some i.toNat := by
  show (if (0 : Int) ≤ i then (if i < (n : Int) then some i.toNat else none) else _) = some i.toNat
  rw [if_pos h, if_pos h2]
/-- a def as it stands -/
def inl (Γ : List Spec) (n m : Nat) (ir : List Sm) : Spec := fun args h F E => args.length = m ∧ wSs Γ ir (enter n args) h { nx := fun _ h' => F .non h', rt := F, ex := fun x _ h' => E x h' }
theorem mt_inl {Γ : List Spec} {n m : Nat} {ir : List Sm} : Meets Γ n m ir (inl Γ n m ir) := fun _ _ _ _ h => h
/-- a comprehension over what each item gives -/
theorem wComp_map {g : Grd} {t : Tg} {e : Env → Hep → KQ → Prop} {σ : Env} {F : List PV → Hep → Prop} {h : Hep} (f : PV → PV) (items : List PV) (hg : ∀ h', Ext h h' → grdOk h' g)
    (he : ∀ x ∈ items, ∀ h', Ext h h' → ∃ σ', tgt t x σ = some σ' ∧ ∀ G : KQ, (∀ h2, Ext h h2 → G (f x) h2) → e σ' h' G) (hl : items.length ≤ big) (fin : ∀ h', Ext h h' → F (items.map f) h') : wComp g t (fun _ h' G => G true h') e σ items [] h F := by
  refine wComp_ind (fun rest acc h' => Ext h h' ∧ ∃ pre, items = pre ++ rest ∧ acc = pre.map f) items [] h ⟨.rfl', [], rfl, rfl⟩ ?_ ?_
  · rintro x r acc h' ⟨ex, pre, hp, rfl⟩
    obtain ⟨σ', e1, e2⟩ := he x (by rw [hp]; simp) h' ex
    refine ⟨hg h' ex, σ', e1, fun K hK => ?_⟩
    show if true = true then _ else _
    rw [if_pos rfl]
    refine e2 _ fun h2 ex2 => ⟨?_, hK _ _ ⟨ex2, pre ++ [x], by rw [hp]; simp, by simp⟩⟩
    have := congrArg List.length hp
    simp at this
    rw [List.length_map]
    omega
  · rintro acc h' ⟨ex, pre, hp, rfl⟩
    rw [List.append_nil] at hp
    exact ⟨hg h' ex, by rw [← hp]; exact fin h' ex⟩
theorem boolsOf_const : ∀ xs : List PV, boolsOf (xs.map fun _ => PV.bl true) = some (xs.map fun _ => true)
  | [] => rfl
  | x :: xs => by rw [List.map_cons, boolsOf, boolsOf_const xs]; rfl
theorem all_const : ∀ xs : List PV, (xs.map fun _ => true).all id = true
  | [] => rfl
  | x :: xs => all_const xs
theorem ExtB.set' {h h' : Hep} {d r : Nat} {o : Ob} (a : ExtB d h h') (l : h.length ≤ r) : ExtB d h (h'.set r o) := ⟨by rw [List.length_set]; exact a.1, fun q o' n e => by
  have := lt_of_get e
  rw [List.getElem?_set_ne (by omega)]
  exact a.2 q o' n e⟩
theorem ExtB.app {h h' j : Hep} {d : Nat} (a : ExtB d h h') : ExtB d h (h' ++ j) := a.trans Ext.app.b
theorem map_erase {α β : Type} (f : α → β) : ∀ (l : List α) (i : Nat), (l.map f).eraseIdx i = (l.eraseIdx i).map f
  | [], _ => rfl
  | _ :: _, 0 => rfl
  | x :: l, i + 1 => by
    show f x :: (l.map f).eraseIdx i = f x :: (l.eraseIdx i).map f
    rw [map_erase f l i]
theorem erase_perm {α : Type} : ∀ (l : List α) (i : Nat) (h : i < l.length), (l[i] :: l.eraseIdx i).Perm l
  | x :: l, 0, _ => List.Perm.refl _
  | x :: l, i + 1, h => by
    have h' : i < l.length := by simpa using h
    exact (List.Perm.swap x l[i] (l.eraseIdx i)).trans ((erase_perm l i h').cons x)
theorem Ext.set' {h h' : Hep} {r : Nat} {o : Ob} (a : Ext h h') (l : h.length ≤ r) : Ext h (h'.set r o) := fun q o' e => by
  have := lt_of_get e
  rw [List.getElem?_set_ne (by omega)]
  exact a q o' e
/-! ### dicts by ints -/
def kvI (l : List (Int × PV)) : List (Ky × PV) := l.map fun p => (Ky.one (.inl p.1), p.2)
theorem dget_kvI (n : Int) : ∀ l : List (Int × PV), dget (.one (.inl n)) (kvI l) = l.lookup n
  | [] => rfl
  | (m, v) :: l => by
    show (if Ky.one (.inl m) = Ky.one (.inl n) then some v else dget (.one (.inl n)) (kvI l)) = _
    rw [List.lookup_cons]
    by_cases e : m = n
    · subst e
      rw [if_pos rfl, beq_self_eq_true]
    · rw [if_neg (fun z => e (by injection z with z; injection z)), show (n == m) = false from by simpa using (Ne.symm e), dget_kvI n l]
theorem kind_kvI (n : Int) (l : List (Int × PV)) : kindOk (.one (.inl n)) (kvI l) = true := by cases l <;> rfl
theorem lookup_none {n : Int} : ∀ {l : List (Int × PV)}, n ∉ l.map (·.1) → l.lookup n = none
  | [], _ => rfl
  | (m, v) :: l, h => by
    rw [List.lookup_cons, show (n == m) = false from by simpa using (fun e => h (by simp [e])), lookup_none (l := l) fun z => h (by simp at z ⊢; exact .inr z)]
theorem dput_new {n : Int} {l : List (Int × PV)} {v : PV} (h : n ∉ l.map (·.1)) : dput (.one (.inl n)) v (kvI l) = kvI (l ++ [(n, v)]) := by
  unfold dput
  rw [dget_kvI, lookup_none h]
  simp [kvI]
theorem len_kvI (l : List (Int × PV)) : (kvI l).length = l.length := by simp [kvI]
/-! ### slices -/
theorem cutL_drop {α : Type} (xs : List α) (i : Nat) (h : i ≤ xs.length) : cutL xs (some (i : Int)) none = xs.drop i := by
  unfold cutL
  have e : sIx xs.length 0 (some (i : Int)) = i := by
    rw [show sIx xs.length 0 (some (i : Int)) = min i xs.length from HT.sIx_nat _ _ _, Nat.min_eq_left h]
  have e2 : sIx xs.length xs.length none = xs.length := rfl
  rw [e, e2]
  exact List.take_of_length_le (by rw [List.length_drop]; omega)
theorem enumL_drop {xs : List PV} {i : Nat} (h : i < xs.length) : enumL i (xs.drop i) = .tup [.int i, xs[i]] :: enumL (i + 1) (xs.drop (i + 1)) := by
  rw [List.drop_eq_getElem_cons h]
  rfl
/-! ### more of comprehensions and of «in» -/
theorem wComp_filter {g : Grd} {t : Tg} {c : Env → Hep → KB → Prop} {e : Env → Hep → KQ → Prop} {σ : Env} {F : List PV → Hep → Prop} {h : Hep} (p : PV → Bool) (f : PV → PV) (items : List PV) (hg : ∀ h', Ext h h' → grdOk h' g)
    (he : ∀ x ∈ items, ∀ h', Ext h h' → ∃ σ', tgt t x σ = some σ' ∧ ∀ G : KB, (∀ h2, Ext h h2 → G (p x) h2) → c σ' h' G)
    (hf : ∀ x ∈ items, ∀ h', Ext h h' → ∀ σ', tgt t x σ = some σ' → p x = true → ∀ G : KQ, (∀ h2, Ext h h2 → G (f x) h2) → e σ' h' G) (hl : items.length ≤ big) (fin : ∀ h', Ext h h' → F ((items.filter p).map f) h') : wComp g t c e σ items [] h F := by
  refine wComp_ind (fun rest acc h' => Ext h h' ∧ ∃ pre, items = pre ++ rest ∧ acc = (pre.filter p).map f) items [] h ⟨.rfl', [], rfl, rfl⟩ ?_ ?_
  · rintro x r acc h' ⟨ex, pre, hp, rfl⟩
    have mx : x ∈ items := by rw [hp]; simp
    obtain ⟨σ', e1, e2⟩ := he x mx h' ex
    refine ⟨hg h' ex, σ', e1, fun K hK => e2 _ fun h2 ex2 => ?_⟩
    have hlen : ((pre.filter p).map f).length < big := by
      have := congrArg List.length hp
      have q := List.length_filter_le p pre
      simp at this
      rw [List.length_map]
      omega
    cases hpx : p x with
    | true =>
      rw [if_pos rfl]
      exact hf x mx h2 ex2 σ' e1 hpx _ fun h3 ex3 => ⟨hlen, hK _ _ ⟨ex3, pre ++ [x], by rw [hp]; simp, by rw [List.filter_append]; simp [hpx]⟩⟩
    | false =>
      rw [if_neg (by decide)]
      exact hK _ _ ⟨ex2, pre ++ [x], by rw [hp]; simp, by rw [List.filter_append]; simp [hpx]⟩
  · rintro acc h' ⟨ex, pre, hp, rfl⟩
    rw [List.append_nil] at hp
    exact ⟨hg h' ex, by rw [← hp]; exact fin h' ex⟩
theorem any_ints (i : Int) : ∀ l : List Int, (l.map PyData.int).any (fun e => PyData.eqv e (.int i)) = decide (i ∈ l)
  | [] => by simp
  | x :: l => by
    rw [List.map_cons, List.any_cons, any_ints i l]
    show ((x == i) || decide (i ∈ l)) = decide (i ∈ x :: l)
    by_cases e : x = i
    · subst e; simp
    · simp [e, Ne.symm e]
theorem inL_ints {h : Hep} {i : Int} {l : List Int} {K : Bool → Prop} (k : K (decide (i ∈ l))) : inL h (.int i) (l.map PV.int) K :=
  ⟨.int i, l.map .int, dat_int h 59 i, rfl, datAll_ints (dat_int h 59) l, lay_ints l, by rw [any_ints]; exact k⟩
theorem eqW_tempty {h : Hep} {l : List Int} {K : Bool → Prop} (k : K l.isEmpty) : eqW h (.tup (l.map PV.int)) (.tup []) K := by
  refine eqW_of (d := .tuple (l.map PyData.int)) (e := .tuple []) ?_ rfl (lay_ints l) rfl ?_
  · show (datAll (dat h 59) (l.map PV.int)).map PyData.tuple = _
    rw [datAll_ints (dat_int h 59)]; rfl
  · show K (PyData.eqvAll (l.map PyData.int) (([] : List Int).map PyData.int))
    rw [eqv_ints]
    cases l <;> exact k
/-! ### sorted -/
theorem sortZ_map {α : Type} (f : α → PV) (g : α → PyData) (L : List α) : sortZ (L.map f) (L.map g) = (L.mergeSort (PySem.W.dataLe false g)).map f := by
  unfold sortZ
  have e : (L.map f).zip (L.map g) = L.map fun x => (f x, g x) := by
    induction L with
    | nil => rfl
    | cons x L ih => rw [List.map_cons, List.map_cons, List.zip_cons_cons, ih]; rfl
  rw [e]
  have e2 : (L.map fun x => (f x, g x)).mergeSort (PySem.W.dataLe false fun p => p.2) = (L.mergeSort (PySem.W.dataLe false g)).map fun x => (f x, g x) := by
    rw [← PySem.W.sort_maps (r := PySem.W.dataLe false g) (s := PySem.W.dataLe false fun (p : PV × PyData) => p.2) (fun x => (f x, g x))]
    intro a _ b _
    rw [PySem.W.dataLe_eq, PySem.W.dataLe_eq]
  rw [e2, List.map_map]
  rfl
def srtI (L : List Int) : List Int := L.mergeSort fun a b => decide (a ≤ b)
def leP (p q : Int × Int) : Bool := decide (p.1 < q.1 ∨ (p.1 = q.1 ∧ p.2 ≤ q.2))
def srtP (L : List (Int × Int)) : List (Int × Int) := L.mergeSort leP
def pairD (p : Int × Int) : PyData := .tuple [.int p.1, .int p.2]
theorem srtI_perm (L : List Int) : (srtI L).Perm L := List.mergeSort_perm _ _
theorem srtP_perm (L : List (Int × Int)) : (srtP L).Perm L := List.mergeSort_perm _ _
theorem srtI_sorted (L : List Int) : (srtI L).Pairwise (· ≤ ·) := by
  have := List.pairwise_mergeSort (le := fun (a b : Int) => decide (a ≤ b)) (fun a b c h1 h2 => by simp at *; omega) (fun a b => by simp; omega) L
  exact this.imp fun h => by simpa using h
theorem srtP_sorted (L : List (Int × Int)) : (srtP L).Pairwise (fun p q => p.1 < q.1 ∨ (p.1 = q.1 ∧ p.2 ≤ q.2)) := by
  have := List.pairwise_mergeSort (le := leP) (fun a b c h1 h2 => by unfold leP at *; simp at *; omega) (fun a b => by unfold leP; simp; omega) L
  exact this.imp fun h => by unfold leP at h; simpa using h
theorem sortZ_ints (L : List Int) : sortZ (L.map PV.int) (L.map PyData.int) = (srtI L).map PV.int := by
  rw [sortZ_map, PySem.W.dataLe_int (fun b => b)]
  rfl
theorem sortZ_pairs (L : List (Int × Int)) : sortZ (L.map pairV) (L.map pairD) = (srtP L).map pairV := by
  rw [sortZ_map]
  have e : PySem.W.dataLe false pairD = leP := PySem.W.dataLe_ii (fun (p : Int × Int) => p.1) (fun p => p.2)
  rw [e]
  rfl
theorem sorted_ints {h : Hep} {L : List Int} {G : List PyData → Prop} (k : G (L.map PyData.int)) : ∃ ds, datAll (dat h 59) (L.map PV.int) = some ds ∧ PySem.W.AllAlike ds ∧ PySem.W.Sortable ds ∧ G ds :=
  ⟨L.map PyData.int, datAll_ints (dat_int h 59) L, PySem.W.AllAlike.of fun _ _ => rfl, PySem.W.Sortable.others fun b => ⟨(fun e => by cases e), (fun xs e => by cases e)⟩, k⟩
theorem sorted_pairs {h : Hep} {L : List (Int × Int)} {G : List PyData → Prop} (k : G (L.map pairD)) : ∃ ds, datAll (dat h 59) (L.map pairV) = some ds ∧ PySem.W.AllAlike ds ∧ PySem.W.Sortable ds ∧ G ds :=
  ⟨L.map pairD, datAll_pairs (n := 58) L, PySem.W.AllAlike.of fun a b => by simp [pairD, PySem.W.alike, PySem.W.alikeAll], PySem.W.Sortable.tuples fun b => ⟨_, _, rfl⟩, k⟩
theorem eqW_ints {h : Hep} {r q : Nat} {ns ms : List Int} {K : Bool → Prop} (e1 : h[r]? = some (.lst (ns.map PV.int))) (e2 : h[q]? = some (.lst (ms.map PV.int))) (k : K (ns == ms)) : eqW h (.ref r) (.ref q) K := by
  refine eqW_of (dat_ints e1) (dat_ints e2) (lay_ints ns) (lay_ints ms) ?_
  show K (PyData.eqvAll (ns.map PyData.int) (ms.map PyData.int))
  rw [eqv_ints]
  exact k
theorem eqW_pairs {h : Hep} {r q : Nat} {ns : List (Int × Int)} {K : Bool → Prop} (e1 : h[r]? = some (.lst (ns.map pairV))) (e2 : h[q]? = some (.lst (ns.map pairV))) (k : K true) : eqW h (.ref r) (.ref q) K :=
  eqW_same (dat_lst (n := 59) e1 (datAll_pairs (n := 58) ns)) (dat_lst (n := 59) e2 (datAll_pairs (n := 58) ns)) (lay_pairs ns) k
theorem srtI_id {L : List Int} (h : L.Pairwise (· ≤ ·)) : srtI L = L := by
  unfold srtI
  exact List.mergeSort_of_pairwise (h.imp fun h => by simpa using h)
theorem sorted_eq : ∀ {L M : List Int}, L.Pairwise (· < ·) → M.Pairwise (· < ·) → (∀ k, k ∈ L ↔ k ∈ M) → L = M
  | [], [], _, _, _ => rfl
  | [], y :: M, _, _, e => by have := (e y).mpr List.mem_cons_self; cases this
  | x :: L, [], _, _, e => by have := (e x).mp List.mem_cons_self; cases this
  | x :: L, y :: M, h1, h2, e => by
    have p1 := List.pairwise_cons.mp h1
    have p2 := List.pairwise_cons.mp h2
    have xy : x = y := by
      rcases List.mem_cons.mp ((e x).mp List.mem_cons_self) with h | h
      · exact h
      · rcases List.mem_cons.mp ((e y).mpr List.mem_cons_self) with k | k
        · exact k.symm
        · have := p2.1 x h
          have := p1.1 y k
          omega
    subst xy
    rw [sorted_eq p1.2 p2.2 fun k => ?_]
    constructor
    · intro hk
      rcases List.mem_cons.mp ((e k).mp (List.mem_cons_of_mem _ hk)) with h | h
      · subst h; have := p1.1 _ hk; omega
      · exact h
    · intro hk
      rcases List.mem_cons.mp ((e k).mpr (List.mem_cons_of_mem _ hk)) with h | h
      · subst h; have := p2.1 _ hk; omega
      · exact h
end Z

local macro_rules
  | `(tactic| simp_arith []) => `(tactic| simp (maxSteps := 2000000) only [Z.inW, Z.wComp, Z.wFor, Z.wSs_nil, Z.wS, Z.wE, Z.wEs, Z.wO, Z.wC, Z.wI, Z.binW, Z.binI, Z.cmpW, Z.truW, Z.itemW, Z.sliceW, Z.revW, Z.stpW, Z.xtW, Z.storeW, Z.biW, Z.isT, Z.isxW, Z.isxsW, Z.miW, Z.isL, Z.getL, Z.getD, Z.listW, Z.seqW, Z.walkW, Z.fldW, Z.insW, Z.stfW, Z.getO, Z.putZ, Z.pairW, Z.dgetW, Z.isD, Z.smW, Z.isS, Z.tgt, Z.tgts, Z.wipeZ, Z.grdOk, Z.eqW_int, Z.enter, List.map_cons, List.map_nil, List.length_cons, List.length_nil, List.replicate_succ, List.replicate_zero, Nat.add_sub_cancel, Nat.sub_self, Nat.zero_add, List.cons_append, List.nil_append, List.getElem?_cons_zero, List.getElem?_cons_succ, List.set_cons_zero, List.set_cons_succ, if_true, if_false, ite_true, ite_false, Bool.not_true, Bool.not_false, Bool.true_eq_false, Bool.false_eq_true, true_and, and_true, reduceCtorEq, Option.some.injEq, false_and, and_false, false_or, or_false, true_or, or_true, Nat.reduceAdd, Nat.reduceSub, List.isEmpty_cons, List.isEmpty_nil, beq_self_eq_true, decide_true, decide_false, Bool.false_or, Bool.true_or, Bool.or_false, Bool.or_true, Bool.and_true, Bool.and_false, Bool.true_and, Bool.false_and, reduceIte, dite_true, dite_false, beq_iff_eq, decide_eq_true_eq, bne_iff_ne, Z.ixN_int, Int.reduceLE, Int.reduceLT, Int.reduceNeg, Int.reduceToNat, Int.cast_ofNat_Int, exists_and_left, exists_eq_left', exists_eq_left, exists_eq', not_true_eq_false, not_false_eq_true, Int.toNat_natCast, Nat.reduceLT, Nat.reduceLeDiff, ne_eq, Z.big, Nat.zero_le, List.length_map, List.getElem?_map, Option.map_some, Option.map_none, Int.reducePow, Nat.reducePow])
local macro_rules
  | `(tactic| simp_arith [$xs,*]) => `(tactic| simp (maxSteps := 2000000) only [Z.inW, Z.wComp, Z.wFor, Z.wSs_nil, Z.wS, Z.wE, Z.wEs, Z.wO, Z.wC, Z.wI, Z.binW, Z.binI, Z.cmpW, Z.truW, Z.itemW, Z.sliceW, Z.revW, Z.stpW, Z.xtW, Z.storeW, Z.biW, Z.isT, Z.isxW, Z.isxsW, Z.miW, Z.isL, Z.getL, Z.getD, Z.listW, Z.seqW, Z.walkW, Z.fldW, Z.insW, Z.stfW, Z.getO, Z.putZ, Z.pairW, Z.dgetW, Z.isD, Z.smW, Z.isS, Z.tgt, Z.tgts, Z.wipeZ, Z.grdOk, Z.eqW_int, Z.enter, List.map_cons, List.map_nil, List.length_cons, List.length_nil, List.replicate_succ, List.replicate_zero, Nat.add_sub_cancel, Nat.sub_self, Nat.zero_add, List.cons_append, List.nil_append, List.getElem?_cons_zero, List.getElem?_cons_succ, List.set_cons_zero, List.set_cons_succ, if_true, if_false, ite_true, ite_false, Bool.not_true, Bool.not_false, Bool.true_eq_false, Bool.false_eq_true, true_and, and_true, reduceCtorEq, Option.some.injEq, false_and, and_false, false_or, or_false, true_or, or_true, Nat.reduceAdd, Nat.reduceSub, List.isEmpty_cons, List.isEmpty_nil, beq_self_eq_true, decide_true, decide_false, Bool.false_or, Bool.true_or, Bool.or_false, Bool.or_true, Bool.and_true, Bool.and_false, Bool.true_and, Bool.false_and, reduceIte, dite_true, dite_false, beq_iff_eq, decide_eq_true_eq, bne_iff_ne, Z.ixN_int, Int.reduceLE, Int.reduceLT, Int.reduceNeg, Int.reduceToNat, Int.cast_ofNat_Int, exists_and_left, exists_eq_left', exists_eq_left, exists_eq', not_true_eq_false, not_false_eq_true, Int.toNat_natCast, Nat.reduceLT, Nat.reduceLeDiff, ne_eq, Z.big, Nat.zero_le, List.length_map, List.getElem?_map, Option.map_some, Option.map_none, Int.reducePow, Nat.reducePow, $xs,*])

/-! Zcom: the helpers that most laws share. -/
namespace Com
open PySem Z
def ir__law_mixed : List Sm := [
  .set (.nm 2) (.bin .Mod (.bin .Mult (.bin .Add (.bin .Add (.bin .Mod (.var 0) (.int 1000000007)) (.bin .Mult (.bin .Mult (.int 31) (.var 1)) (.var 1))) (.int 7)) (.int 48271)) (.int 2147483647)),
  .ret (.bin .Mod (.bin .Mult (.var 2) (.bin .Add (.int 16807) (.bin .Mult (.int 7919) (.var 1)))) (.int 2147483629))]
def sp__law_mixed : Z.Spec := fun args h F _ => ∃ c k : Int, args = [.int c, .int k] ∧ 0 ≤ k ∧ k ≤ 10 ^ 15 ∧ ∀ r : Int, 0 ≤ r → r < 2147483629 → F (.int r) h
theorem mulOk_l {i j : Int} (h1 : 0 ≤ i) (h2 : i < 2 ^ 64) : mulOk i j := .inl ⟨by omega, h2⟩
theorem mulOk_r {i j : Int} (h1 : 0 ≤ j) (h2 : j < 2 ^ 64) : mulOk i j := .inr (.inl ⟨by omega, h2⟩)
theorem divOk_of {j : Int} (h1 : 0 < j) (h2 : j < 2 ^ 64) : divOk j := by
  refine ⟨h1, ?_⟩
  have : j.natAbs < 2 ^ 64 := by omega
  have := (Nat.log2_lt (by omega : j.natAbs ≠ 0)).mpr this
  omega
theorem mt__law_mixed : Meets [] 3 2 ir__law_mixed sp__law_mixed := by
  rintro args h F E ⟨c, k, rfl, h1, h2, kf⟩
  refine ⟨rfl, ?_⟩
  unfold ir__law_mixed
  simp (maxSteps := 2000000) only [wSs, inW, wComp, wFor, wSs_nil, wS, wE, wEs, wO, wC, wI, binW, binI, cmpW, truW, itemW, sliceW, revW, stpW, xtW, storeW, biW, isT, isxW, isxsW, miW, isL, getL, getD, listW, seqW, walkW, fldW, insW, stfW, getO, putZ, pairW, dgetW, isD, smW, isS, tgt, tgts, wipeZ, grdOk, eqW_int, enter, List.map_cons, List.map_nil, List.length_cons, List.length_nil, List.replicate_succ, List.replicate_zero, Nat.add_sub_cancel, Nat.sub_self, Nat.zero_add, List.cons_append, List.nil_append, List.getElem?_cons_zero, List.getElem?_cons_succ, List.set_cons_zero, List.set_cons_succ, if_true, if_false, ite_true, ite_false, Bool.not_true, Bool.not_false, Bool.true_eq_false, Bool.false_eq_true, true_and, and_true, reduceCtorEq, Option.some.injEq, false_and, and_false, false_or, or_false, true_or, or_true, Nat.reduceAdd, Nat.reduceSub, List.isEmpty_cons, List.isEmpty_nil, beq_self_eq_true, decide_true, decide_false, Bool.false_or, Bool.true_or, Bool.or_false, Bool.or_true, Bool.and_true, Bool.and_false, Bool.true_and, Bool.false_and, reduceIte, dite_true, dite_false, beq_iff_eq, decide_eq_true_eq, bne_iff_ne, ixN_int, Int.reduceLE, Int.reduceLT, Int.reduceNeg, Int.reduceToNat, Int.cast_ofNat_Int, exists_and_left, exists_eq_left', exists_eq_left, exists_eq', not_true_eq_false, not_false_eq_true, Int.toNat_natCast, Nat.reduceLT, Nat.reduceLeDiff, ne_eq, big, Nat.zero_le, List.length_map, List.getElem?_map, Option.map_some, Option.map_none, Int.reducePow, Nat.reducePow]
  refine ⟨mulOk_l (by decide) (by decide), mulOk_r h1 (by omega), mulOk_r (by decide) (by decide), mulOk_l (by decide) (by decide), mulOk_l (by omega) (by omega), ?_⟩
  exact kf _ (Int.emod_nonneg _ (by decide)) (Int.emod_lt_of_pos _ (by decide))

/-- what a draw is: a number, a counter, what is left of a long number -/
def drawV (c n o : Int) : List PV := [.int c, .int n, .int o]
def ir__law_next : List Sm := [
  .ife (.cmp .Gt (.idx (.var 0) (.int 2)) (.int 0)) [.set (.nm 2) (.bin .Mod (.idx (.var 0) (.int 2)) (.var 1)), .sto (.var 0) (.int 2) (.bin .FloorDiv (.idx (.var 0) (.int 2)) (.var 1)), .ret (.var 2)] [],
  .sto (.var 0) (.int 1) (.bin .Add (.idx (.var 0) (.int 1)) (.int 1)),
  .set (.nm 3) (.bin .Add (.bin .Mult (.call 0 [(.idx (.var 0) (.int 0)), (.idx (.var 0) (.int 1))]) (.int 2147483629)) (.call 0 [(.idx (.var 0) (.int 0)), (.bin .Add (.idx (.var 0) (.int 1)) (.int 9001))])),
  .ret (.bin .Mod (.bin .FloorDiv (.var 3) (.int 11)) (.var 1))]
/-- a draw, whose counter is below 10^12 -/
def IsDraw (h : Hep) (d : Nat) (B : Int) : Prop := ∃ c n o : Int, h[d]? = some (.lst (drawV c n o)) ∧ 0 ≤ n ∧ n ≤ B ∧ 0 ≤ o
def sp__law_next : Z.Spec := fun args h F _ => ∃ (d : Nat) (m B : Int), args = [.ref d, .int m] ∧ IsDraw h d B ∧ B ≤ 10 ^ 12 ∧ 1 ≤ m ∧ m < 2 ^ 64 ∧ ∀ (v : Int) (h' : Hep), 0 ≤ v → v < m → IsDraw h' d (B + 1) → h'.length = h.length → (∀ q, q ≠ d → h'[q]? = h[q]?) → F (.int v) h'
theorem mt__law_next : Meets [sp__law_mixed] 4 2 ir__law_next sp__law_next := by
  rintro args h F E ⟨d, m, B, rfl, ⟨c, n, o, e, hn, hnB, ho⟩, hB, hm, hm2, kf⟩
  refine ⟨rfl, ?_⟩
  unfold ir__law_next
  simp (maxSteps := 2000000) only [wSs, inW, wComp, wFor, wSs_nil, wS, wE, wEs, wO, wC, wI, binW, binI, cmpW, truW, itemW, sliceW, revW, stpW, xtW, storeW, biW, isT, isxW, isxsW, miW, isL, getL, getD, listW, seqW, walkW, fldW, insW, stfW, getO, putZ, pairW, dgetW, isD, smW, isS, tgt, tgts, wipeZ, grdOk, eqW_int, enter, List.map_cons, List.map_nil, List.length_cons, List.length_nil, List.replicate_succ, List.replicate_zero, Nat.add_sub_cancel, Nat.sub_self, Nat.zero_add, List.cons_append, List.nil_append, List.getElem?_cons_zero, List.getElem?_cons_succ, List.set_cons_zero, List.set_cons_succ, if_true, if_false, ite_true, ite_false, Bool.not_true, Bool.not_false, Bool.true_eq_false, Bool.false_eq_true, true_and, and_true, reduceCtorEq, Option.some.injEq, false_and, and_false, false_or, or_false, true_or, or_true, Nat.reduceAdd, Nat.reduceSub, List.isEmpty_cons, List.isEmpty_nil, beq_self_eq_true, decide_true, decide_false, Bool.false_or, Bool.true_or, Bool.or_false, Bool.or_true, Bool.and_true, Bool.and_false, Bool.true_and, Bool.false_and, reduceIte, dite_true, dite_false, beq_iff_eq, decide_eq_true_eq, bne_iff_ne, ixN_int, Int.reduceLE, Int.reduceLT, Int.reduceNeg, Int.reduceToNat, Int.cast_ofNat_Int, exists_and_left, exists_eq_left', exists_eq_left, exists_eq', not_true_eq_false, not_false_eq_true, Int.toNat_natCast, Nat.reduceLT, Nat.reduceLeDiff, ne_eq, big, Nat.zero_le, List.length_map, List.getElem?_map, Option.map_some, Option.map_none, Int.reducePow, Nat.reducePow, e, drawV]
  by_cases c1 : 0 < o
  · simp (maxSteps := 2000000) only [wSs, inW, wComp, wFor, wSs_nil, wS, wE, wEs, wO, wC, wI, binW, binI, cmpW, truW, itemW, sliceW, revW, stpW, xtW, storeW, biW, isT, isxW, isxsW, miW, isL, getL, getD, listW, seqW, walkW, fldW, insW, stfW, getO, putZ, pairW, dgetW, isD, smW, isS, tgt, tgts, wipeZ, grdOk, eqW_int, enter, List.map_cons, List.map_nil, List.length_cons, List.length_nil, List.replicate_succ, List.replicate_zero, Nat.add_sub_cancel, Nat.sub_self, Nat.zero_add, List.cons_append, List.nil_append, List.getElem?_cons_zero, List.getElem?_cons_succ, List.set_cons_zero, List.set_cons_succ, if_true, if_false, ite_true, ite_false, Bool.not_true, Bool.not_false, Bool.true_eq_false, Bool.false_eq_true, true_and, and_true, reduceCtorEq, Option.some.injEq, false_and, and_false, false_or, or_false, true_or, or_true, Nat.reduceAdd, Nat.reduceSub, List.isEmpty_cons, List.isEmpty_nil, beq_self_eq_true, decide_true, decide_false, Bool.false_or, Bool.true_or, Bool.or_false, Bool.or_true, Bool.and_true, Bool.and_false, Bool.true_and, Bool.false_and, reduceIte, dite_true, dite_false, beq_iff_eq, decide_eq_true_eq, bne_iff_ne, ixN_int, Int.reduceLE, Int.reduceLT, Int.reduceNeg, Int.reduceToNat, Int.cast_ofNat_Int, exists_and_left, exists_eq_left', exists_eq_left, exists_eq', not_true_eq_false, not_false_eq_true, Int.toNat_natCast, Nat.reduceLT, Nat.reduceLeDiff, ne_eq, big, Nat.zero_le, List.length_map, List.getElem?_map, Option.map_some, Option.map_none, Int.reducePow, Nat.reducePow, c1]
    refine ⟨by omega, divOk_of (by omega) hm2, kf _ _ (Int.emod_nonneg _ (by omega)) (Int.emod_lt_of_pos _ (by omega)) ⟨c, n, o / m, set_get e, hn, by omega, Int.ediv_nonneg ho (by omega)⟩ (by simp) fun q hq => List.getElem?_set_ne (Ne.symm hq)⟩
  · simp (maxSteps := 2000000) only [wSs, inW, wComp, wFor, wSs_nil, wS, wE, wEs, wO, wC, wI, binW, binI, cmpW, truW, itemW, sliceW, revW, stpW, xtW, storeW, biW, isT, isxW, isxsW, miW, isL, getL, getD, listW, seqW, walkW, fldW, insW, stfW, getO, putZ, pairW, dgetW, isD, smW, isS, tgt, tgts, wipeZ, grdOk, eqW_int, enter, List.map_cons, List.map_nil, List.length_cons, List.length_nil, List.replicate_succ, List.replicate_zero, Nat.add_sub_cancel, Nat.sub_self, Nat.zero_add, List.cons_append, List.nil_append, List.getElem?_cons_zero, List.getElem?_cons_succ, List.set_cons_zero, List.set_cons_succ, if_true, if_false, ite_true, ite_false, Bool.not_true, Bool.not_false, Bool.true_eq_false, Bool.false_eq_true, true_and, and_true, reduceCtorEq, Option.some.injEq, false_and, and_false, false_or, or_false, true_or, or_true, Nat.reduceAdd, Nat.reduceSub, List.isEmpty_cons, List.isEmpty_nil, beq_self_eq_true, decide_true, decide_false, Bool.false_or, Bool.true_or, Bool.or_false, Bool.or_true, Bool.and_true, Bool.and_false, Bool.true_and, Bool.false_and, reduceIte, dite_true, dite_false, beq_iff_eq, decide_eq_true_eq, bne_iff_ne, ixN_int, Int.reduceLE, Int.reduceLT, Int.reduceNeg, Int.reduceToNat, Int.cast_ofNat_Int, exists_and_left, exists_eq_left', exists_eq_left, exists_eq', not_true_eq_false, not_false_eq_true, Int.toNat_natCast, Nat.reduceLT, Nat.reduceLeDiff, ne_eq, big, Nat.zero_le, List.length_map, List.getElem?_map, Option.map_some, Option.map_none, Int.reducePow, Nat.reducePow, c1, set_get e]
    refine ⟨c, n + 1, rfl, by omega, by omega, fun r hr1 hr2 => ?_⟩
    simp (maxSteps := 2000000) only [wSs, inW, wComp, wFor, wSs_nil, wS, wE, wEs, wO, wC, wI, binW, binI, cmpW, truW, itemW, sliceW, revW, stpW, xtW, storeW, biW, isT, isxW, isxsW, miW, isL, getL, getD, listW, seqW, walkW, fldW, insW, stfW, getO, putZ, pairW, dgetW, isD, smW, isS, tgt, tgts, wipeZ, grdOk, eqW_int, enter, List.map_cons, List.map_nil, List.length_cons, List.length_nil, List.replicate_succ, List.replicate_zero, Nat.add_sub_cancel, Nat.sub_self, Nat.zero_add, List.cons_append, List.nil_append, List.getElem?_cons_zero, List.getElem?_cons_succ, List.set_cons_zero, List.set_cons_succ, if_true, if_false, ite_true, ite_false, Bool.not_true, Bool.not_false, Bool.true_eq_false, Bool.false_eq_true, true_and, and_true, reduceCtorEq, Option.some.injEq, false_and, and_false, false_or, or_false, true_or, or_true, Nat.reduceAdd, Nat.reduceSub, List.isEmpty_cons, List.isEmpty_nil, beq_self_eq_true, decide_true, decide_false, Bool.false_or, Bool.true_or, Bool.or_false, Bool.or_true, Bool.and_true, Bool.and_false, Bool.true_and, Bool.false_and, reduceIte, dite_true, dite_false, beq_iff_eq, decide_eq_true_eq, bne_iff_ne, ixN_int, Int.reduceLE, Int.reduceLT, Int.reduceNeg, Int.reduceToNat, Int.cast_ofNat_Int, exists_and_left, exists_eq_left', exists_eq_left, exists_eq', not_true_eq_false, not_false_eq_true, Int.toNat_natCast, Nat.reduceLT, Nat.reduceLeDiff, ne_eq, big, Nat.zero_le, List.length_map, List.getElem?_map, Option.map_some, Option.map_none, Int.reducePow, Nat.reducePow, set_get e]
    refine ⟨mulOk_r (by decide) (by decide), c, n + 1 + 9001, rfl, by omega, by omega, fun r2 _ _ => ?_⟩
    simp (maxSteps := 2000000) only [wSs, inW, wComp, wFor, wSs_nil, wS, wE, wEs, wO, wC, wI, binW, binI, cmpW, truW, itemW, sliceW, revW, stpW, xtW, storeW, biW, isT, isxW, isxsW, miW, isL, getL, getD, listW, seqW, walkW, fldW, insW, stfW, getO, putZ, pairW, dgetW, isD, smW, isS, tgt, tgts, wipeZ, grdOk, eqW_int, enter, List.map_cons, List.map_nil, List.length_cons, List.length_nil, List.replicate_succ, List.replicate_zero, Nat.add_sub_cancel, Nat.sub_self, Nat.zero_add, List.cons_append, List.nil_append, List.getElem?_cons_zero, List.getElem?_cons_succ, List.set_cons_zero, List.set_cons_succ, if_true, if_false, ite_true, ite_false, Bool.not_true, Bool.not_false, Bool.true_eq_false, Bool.false_eq_true, true_and, and_true, reduceCtorEq, Option.some.injEq, false_and, and_false, false_or, or_false, true_or, or_true, Nat.reduceAdd, Nat.reduceSub, List.isEmpty_cons, List.isEmpty_nil, beq_self_eq_true, decide_true, decide_false, Bool.false_or, Bool.true_or, Bool.or_false, Bool.or_true, Bool.and_true, Bool.and_false, Bool.true_and, Bool.false_and, reduceIte, dite_true, dite_false, beq_iff_eq, decide_eq_true_eq, bne_iff_ne, ixN_int, Int.reduceLE, Int.reduceLT, Int.reduceNeg, Int.reduceToNat, Int.cast_ofNat_Int, exists_and_left, exists_eq_left', exists_eq_left, exists_eq', not_true_eq_false, not_false_eq_true, Int.toNat_natCast, Nat.reduceLT, Nat.reduceLeDiff, ne_eq, big, Nat.zero_le, List.length_map, List.getElem?_map, Option.map_some, Option.map_none, Int.reducePow, Nat.reducePow]
    exact ⟨divOk_of (by decide) (by decide), by omega, kf _ _ (Int.emod_nonneg _ (by omega)) (Int.emod_lt_of_pos _ (by omega)) ⟨c, n + 1, o, set_get e, by omega, by omega, ho⟩ (by simp) fun q hq => List.getElem?_set_ne (Ne.symm hq)⟩
/-! the draw of a script -/
def ir__law_draw : List Sm := [
  .set (.nm 2) (.ife (.cmp .NotEq (.var 0) (.lst [])) (.idx (.var 0) (.bin .Mod (.var 1) (.bi .len [(.var 0)]))) (.int 0)),
  .set (.nm 3) (.ife (.cmp .GtE (.var 2) (.bin .Pow (.int 10) (.int 18))) (.var 2) (.int 0)),
  .for_ (.nm 4) (.rng1 (.bin .FloorDiv (.var 1) (.bi .max2 [(.int 1), (.bi .len [(.var 0)])]))) [.set (.nm 3) (.bin .FloorDiv (.var 3) (.bin .Pow (.int 10) (.int 18)))],
  .ret (.lst [(.var 2), (.bin .Mult (.int 64) (.var 1)), (.var 3)])]
def sp__law_draw : Z.Spec := fun args h F _ => ∃ (ns : List Int) (k : Int), args = [.ils (ns.map PV.int), .int k] ∧ ns.length ≤ 63 ∧ 0 ≤ k ∧ k ≤ 10 ^ 6 ∧ ∀ (r : Nat) (h' : Hep), Ext h h' → h.length ≤ r → IsDraw h' r (10 ^ 9) → F (.ref r) h'
theorem mt__law_draw : Meets [] 5 2 ir__law_draw sp__law_draw := by
  rintro args h F E ⟨ns, k, rfl, hl, hk, hk2, kf⟩
  refine ⟨rfl, ?_⟩
  unfold ir__law_draw
  simp (maxSteps := 2000000) only [wSs, inW, wComp, wFor, wSs_nil, wS, wE, wEs, wO, wC, wI, binW, binI, cmpW, truW, itemW, sliceW, revW, stpW, xtW, storeW, biW, isT, isxW, isxsW, miW, isL, getL, getD, listW, seqW, walkW, fldW, insW, stfW, getO, putZ, pairW, dgetW, isD, smW, isS, tgt, tgts, wipeZ, grdOk, eqW_int, enter, List.map_cons, List.map_nil, List.length_cons, List.length_nil, List.replicate_succ, List.replicate_zero, Nat.add_sub_cancel, Nat.sub_self, Nat.zero_add, List.cons_append, List.nil_append, List.getElem?_cons_zero, List.getElem?_cons_succ, List.set_cons_zero, List.set_cons_succ, if_true, if_false, ite_true, ite_false, Bool.not_true, Bool.not_false, Bool.true_eq_false, Bool.false_eq_true, true_and, and_true, reduceCtorEq, Option.some.injEq, false_and, and_false, false_or, or_false, true_or, or_true, Nat.reduceAdd, Nat.reduceSub, List.isEmpty_cons, List.isEmpty_nil, beq_self_eq_true, decide_true, decide_false, Bool.false_or, Bool.true_or, Bool.or_false, Bool.or_true, Bool.and_true, Bool.and_false, Bool.true_and, Bool.false_and, reduceIte, dite_true, dite_false, beq_iff_eq, decide_eq_true_eq, bne_iff_ne, ixN_int, Int.reduceLE, Int.reduceLT, Int.reduceNeg, Int.reduceToNat, Int.cast_ofNat_Int, exists_and_left, exists_eq_left', exists_eq_left, exists_eq', not_true_eq_false, not_false_eq_true, Int.toNat_natCast, Nat.reduceLT, Nat.reduceLeDiff, ne_eq, big, Nat.zero_le, List.length_map, List.getElem?_map, Option.map_some, Option.map_none, Int.reducePow, Nat.reducePow]
  have pw : powOk 10 18 := ⟨by decide, by decide, by decide⟩
  have loop : ∀ (c o : Int) (hh : Hep) (m : Int), 0 ≤ o → ∀ (b : Z.Env → Hep → Dz → Prop) (D : Dz), (∀ y o h' D', 0 ≤ o → (∀ o', 0 ≤ o' → D'.nx [some (PV.ils (ns.map PV.int)), some (.int k), some (.int c), some (.int o'), y] h') → b [some (PV.ils (ns.map PV.int)), some (.int k), some (.int c), some (.int o), y] h' D') →
      (∀ y o, 0 ≤ o → D.nx [some (PV.ils (ns.map PV.int)), some (.int k), some (.int c), some (.int o), y] hh) →
      wFor [] (Tg.nm 4) b (rngL 0 (k / m).toNat) [some (PV.ils (ns.map PV.int)), some (.int k), some (.int c), some (.int o), none] hh D := by
    intro c o hh m ho b D hb hD
    refine wFor_ind (fun _ σ h' => h' = hh ∧ ∃ x o, σ = [some (PV.ils (ns.map PV.int)), some (.int k), some (.int c), some (.int o), x] ∧ 0 ≤ o) _ _ _ ⟨rfl, none, o, rfl, ho⟩ ?_ ?_
    · rintro x r σ h' ⟨rfl, y, o, rfl, ho⟩
      refine ⟨trivial, _, rfl, fun K hK => ?_⟩
      exact hb (some x) o _ _ ho fun o' ho' => hK _ _ ⟨rfl, some x, o', rfl, ho'⟩
    · rintro σ h' ⟨rfl, y, o, rfl, ho⟩
      exact ⟨trivial, hD y o ho⟩
  have fin : ∀ (c o : Int), 0 ≤ o → F (PV.ref (h ++ [Ob.lst []]).length) (h ++ [Ob.lst []] ++ [Ob.lst [PV.int c, PV.int (64 * k), PV.int o]]) := fun c o ho => kf _ _ (Ext.app.trans .app) (by simp) ⟨c, 64 * k, o, new_get, by omega, by omega, ho⟩
  refine eqW_iempty new_get ?_
  have m1 : 1 ≤ max (1 : Int) (ns.length : Int) := by omega
  have k1 : 0 ≤ k / max (1 : Int) (ns.length : Int) := Int.ediv_nonneg hk (by omega)
  have k2 : k / max (1 : Int) (ns.length : Int) ≤ k := Int.ediv_le_self _ hk
  have dv : divOk (max (1 : Int) (ns.length : Int)) := divOk_of (by omega) (by omega)
  have d10 : divOk 1000000000000000000 := divOk_of (by decide) (by decide)
  have mk : mulOk 64 k := mulOk_l (by decide) (by decide)
  cases hns : ns.isEmpty with
  | true =>
    obtain rfl : ns = [] := List.isEmpty_iff.mp hns
    have q1 : 0 ≤ k / max (1 : Int) 0 := Int.ediv_nonneg hk (by decide)
    have q2 : k / max (1 : Int) 0 ≤ k := Int.ediv_le_self _ hk
    simp (maxSteps := 2000000) only [wSs, inW, wComp, wFor, wSs_nil, wS, wE, wEs, wO, wC, wI, binW, binI, cmpW, truW, itemW, sliceW, revW, stpW, xtW, storeW, biW, isT, isxW, isxsW, miW, isL, getL, getD, listW, seqW, walkW, fldW, insW, stfW, getO, putZ, pairW, dgetW, isD, smW, isS, tgt, tgts, wipeZ, grdOk, eqW_int, enter, List.map_cons, List.map_nil, List.length_cons, List.length_nil, List.replicate_succ, List.replicate_zero, Nat.add_sub_cancel, Nat.sub_self, Nat.zero_add, List.cons_append, List.nil_append, List.getElem?_cons_zero, List.getElem?_cons_succ, List.set_cons_zero, List.set_cons_succ, if_true, if_false, ite_true, ite_false, Bool.not_true, Bool.not_false, Bool.true_eq_false, Bool.false_eq_true, true_and, and_true, reduceCtorEq, Option.some.injEq, false_and, and_false, false_or, or_false, true_or, or_true, Nat.reduceAdd, Nat.reduceSub, List.isEmpty_cons, List.isEmpty_nil, beq_self_eq_true, decide_true, decide_false, Bool.false_or, Bool.true_or, Bool.or_false, Bool.or_true, Bool.and_true, Bool.and_false, Bool.true_and, Bool.false_and, reduceIte, dite_true, dite_false, beq_iff_eq, decide_eq_true_eq, bne_iff_ne, ixN_int, Int.reduceLE, Int.reduceLT, Int.reduceNeg, Int.reduceToNat, Int.cast_ofNat_Int, exists_and_left, exists_eq_left', exists_eq_left, exists_eq', not_true_eq_false, not_false_eq_true, Int.toNat_natCast, Nat.reduceLT, Nat.reduceLeDiff, ne_eq, big, Nat.zero_le, List.length_map, List.getElem?_map, Option.map_some, Option.map_none, Int.reducePow, Nat.reducePow, pw]
    refine ⟨dv, by omega, by omega, loop _ _ _ _ (by omega) _ _ (fun y o h' D' ho hn => ?_) fun y o ho => ?_⟩
    · simp (maxSteps := 2000000) only [wSs, inW, wComp, wFor, wSs_nil, wS, wE, wEs, wO, wC, wI, binW, binI, cmpW, truW, itemW, sliceW, revW, stpW, xtW, storeW, biW, isT, isxW, isxsW, miW, isL, getL, getD, listW, seqW, walkW, fldW, insW, stfW, getO, putZ, pairW, dgetW, isD, smW, isS, tgt, tgts, wipeZ, grdOk, eqW_int, enter, List.map_cons, List.map_nil, List.length_cons, List.length_nil, List.replicate_succ, List.replicate_zero, Nat.add_sub_cancel, Nat.sub_self, Nat.zero_add, List.cons_append, List.nil_append, List.getElem?_cons_zero, List.getElem?_cons_succ, List.set_cons_zero, List.set_cons_succ, if_true, if_false, ite_true, ite_false, Bool.not_true, Bool.not_false, Bool.true_eq_false, Bool.false_eq_true, true_and, and_true, reduceCtorEq, Option.some.injEq, false_and, and_false, false_or, or_false, true_or, or_true, Nat.reduceAdd, Nat.reduceSub, List.isEmpty_cons, List.isEmpty_nil, beq_self_eq_true, decide_true, decide_false, Bool.false_or, Bool.true_or, Bool.or_false, Bool.or_true, Bool.and_true, Bool.and_false, Bool.true_and, Bool.false_and, reduceIte, dite_true, dite_false, beq_iff_eq, decide_eq_true_eq, bne_iff_ne, ixN_int, Int.reduceLE, Int.reduceLT, Int.reduceNeg, Int.reduceToNat, Int.cast_ofNat_Int, exists_and_left, exists_eq_left', exists_eq_left, exists_eq', not_true_eq_false, not_false_eq_true, Int.toNat_natCast, Nat.reduceLT, Nat.reduceLeDiff, ne_eq, big, Nat.zero_le, List.length_map, List.getElem?_map, Option.map_some, Option.map_none, Int.reducePow, Nat.reducePow, pw, d10]
      exact hn _ (Int.ediv_nonneg ho (by decide))
    · simp (maxSteps := 2000000) only [wSs, inW, wComp, wFor, wSs_nil, wS, wE, wEs, wO, wC, wI, binW, binI, cmpW, truW, itemW, sliceW, revW, stpW, xtW, storeW, biW, isT, isxW, isxsW, miW, isL, getL, getD, listW, seqW, walkW, fldW, insW, stfW, getO, putZ, pairW, dgetW, isD, smW, isS, tgt, tgts, wipeZ, grdOk, eqW_int, enter, List.map_cons, List.map_nil, List.length_cons, List.length_nil, List.replicate_succ, List.replicate_zero, Nat.add_sub_cancel, Nat.sub_self, Nat.zero_add, List.cons_append, List.nil_append, List.getElem?_cons_zero, List.getElem?_cons_succ, List.set_cons_zero, List.set_cons_succ, if_true, if_false, ite_true, ite_false, Bool.not_true, Bool.not_false, Bool.true_eq_false, Bool.false_eq_true, true_and, and_true, reduceCtorEq, Option.some.injEq, false_and, and_false, false_or, or_false, true_or, or_true, Nat.reduceAdd, Nat.reduceSub, List.isEmpty_cons, List.isEmpty_nil, beq_self_eq_true, decide_true, decide_false, Bool.false_or, Bool.true_or, Bool.or_false, Bool.or_true, Bool.and_true, Bool.and_false, Bool.true_and, Bool.false_and, reduceIte, dite_true, dite_false, beq_iff_eq, decide_eq_true_eq, bne_iff_ne, ixN_int, Int.reduceLE, Int.reduceLT, Int.reduceNeg, Int.reduceToNat, Int.cast_ofNat_Int, exists_and_left, exists_eq_left', exists_eq_left, exists_eq', not_true_eq_false, not_false_eq_true, Int.toNat_natCast, Nat.reduceLT, Nat.reduceLeDiff, ne_eq, big, Nat.zero_le, List.length_map, List.getElem?_map, Option.map_some, Option.map_none, Int.reducePow, Nat.reducePow, mk]
      exact fin _ _ ho
  | false =>
    have lz : 0 < ns.length := by
      cases ns with
      | nil => cases hns
      | cons _ _ => simp
    have j1 : 0 ≤ k % (ns.length : Int) := Int.emod_nonneg _ (by omega)
    have j2 : k % (ns.length : Int) < ns.length := Int.emod_lt_of_pos _ (by omega)
    have j3 : (k % (ns.length : Int)).toNat < ns.length := by omega
    simp (maxSteps := 2000000) only [wSs, inW, wComp, wFor, wSs_nil, wS, wE, wEs, wO, wC, wI, binW, binI, cmpW, truW, itemW, sliceW, revW, stpW, xtW, storeW, biW, isT, isxW, isxsW, miW, isL, getL, getD, listW, seqW, walkW, fldW, insW, stfW, getO, putZ, pairW, dgetW, isD, smW, isS, tgt, tgts, wipeZ, grdOk, eqW_int, enter, List.map_cons, List.map_nil, List.length_cons, List.length_nil, List.replicate_succ, List.replicate_zero, Nat.add_sub_cancel, Nat.sub_self, Nat.zero_add, List.cons_append, List.nil_append, List.getElem?_cons_zero, List.getElem?_cons_succ, List.set_cons_zero, List.set_cons_succ, if_true, if_false, ite_true, ite_false, Bool.not_true, Bool.not_false, Bool.true_eq_false, Bool.false_eq_true, true_and, and_true, reduceCtorEq, Option.some.injEq, false_and, and_false, false_or, or_false, true_or, or_true, Nat.reduceAdd, Nat.reduceSub, List.isEmpty_cons, List.isEmpty_nil, beq_self_eq_true, decide_true, decide_false, Bool.false_or, Bool.true_or, Bool.or_false, Bool.or_true, Bool.and_true, Bool.and_false, Bool.true_and, Bool.false_and, reduceIte, dite_true, dite_false, beq_iff_eq, decide_eq_true_eq, bne_iff_ne, ixN_int, Int.reduceLE, Int.reduceLT, Int.reduceNeg, Int.reduceToNat, Int.cast_ofNat_Int, exists_and_left, exists_eq_left', exists_eq_left, exists_eq', not_true_eq_false, not_false_eq_true, Int.toNat_natCast, Nat.reduceLT, Nat.reduceLeDiff, ne_eq, big, Nat.zero_le, List.length_map, List.getElem?_map, Option.map_some, Option.map_none, Int.reducePow, Nat.reducePow, pw, ixN_int j1 j2, List.getElem?_eq_getElem j3]
    refine ⟨by omega, ?_⟩
    split
    · refine ⟨dv, by omega, by omega, loop _ _ _ _ (by omega) _ _ (fun y o h' D' ho hn => ?_) fun y o ho => ?_⟩
      · simp (maxSteps := 2000000) only [wSs, inW, wComp, wFor, wSs_nil, wS, wE, wEs, wO, wC, wI, binW, binI, cmpW, truW, itemW, sliceW, revW, stpW, xtW, storeW, biW, isT, isxW, isxsW, miW, isL, getL, getD, listW, seqW, walkW, fldW, insW, stfW, getO, putZ, pairW, dgetW, isD, smW, isS, tgt, tgts, wipeZ, grdOk, eqW_int, enter, List.map_cons, List.map_nil, List.length_cons, List.length_nil, List.replicate_succ, List.replicate_zero, Nat.add_sub_cancel, Nat.sub_self, Nat.zero_add, List.cons_append, List.nil_append, List.getElem?_cons_zero, List.getElem?_cons_succ, List.set_cons_zero, List.set_cons_succ, if_true, if_false, ite_true, ite_false, Bool.not_true, Bool.not_false, Bool.true_eq_false, Bool.false_eq_true, true_and, and_true, reduceCtorEq, Option.some.injEq, false_and, and_false, false_or, or_false, true_or, or_true, Nat.reduceAdd, Nat.reduceSub, List.isEmpty_cons, List.isEmpty_nil, beq_self_eq_true, decide_true, decide_false, Bool.false_or, Bool.true_or, Bool.or_false, Bool.or_true, Bool.and_true, Bool.and_false, Bool.true_and, Bool.false_and, reduceIte, dite_true, dite_false, beq_iff_eq, decide_eq_true_eq, bne_iff_ne, ixN_int, Int.reduceLE, Int.reduceLT, Int.reduceNeg, Int.reduceToNat, Int.cast_ofNat_Int, exists_and_left, exists_eq_left', exists_eq_left, exists_eq', not_true_eq_false, not_false_eq_true, Int.toNat_natCast, Nat.reduceLT, Nat.reduceLeDiff, ne_eq, big, Nat.zero_le, List.length_map, List.getElem?_map, Option.map_some, Option.map_none, Int.reducePow, Nat.reducePow, pw, d10]
        exact hn _ (Int.ediv_nonneg ho (by decide))
      · simp (maxSteps := 2000000) only [wSs, inW, wComp, wFor, wSs_nil, wS, wE, wEs, wO, wC, wI, binW, binI, cmpW, truW, itemW, sliceW, revW, stpW, xtW, storeW, biW, isT, isxW, isxsW, miW, isL, getL, getD, listW, seqW, walkW, fldW, insW, stfW, getO, putZ, pairW, dgetW, isD, smW, isS, tgt, tgts, wipeZ, grdOk, eqW_int, enter, List.map_cons, List.map_nil, List.length_cons, List.length_nil, List.replicate_succ, List.replicate_zero, Nat.add_sub_cancel, Nat.sub_self, Nat.zero_add, List.cons_append, List.nil_append, List.getElem?_cons_zero, List.getElem?_cons_succ, List.set_cons_zero, List.set_cons_succ, if_true, if_false, ite_true, ite_false, Bool.not_true, Bool.not_false, Bool.true_eq_false, Bool.false_eq_true, true_and, and_true, reduceCtorEq, Option.some.injEq, false_and, and_false, false_or, or_false, true_or, or_true, Nat.reduceAdd, Nat.reduceSub, List.isEmpty_cons, List.isEmpty_nil, beq_self_eq_true, decide_true, decide_false, Bool.false_or, Bool.true_or, Bool.or_false, Bool.or_true, Bool.and_true, Bool.and_false, Bool.true_and, Bool.false_and, reduceIte, dite_true, dite_false, beq_iff_eq, decide_eq_true_eq, bne_iff_ne, ixN_int, Int.reduceLE, Int.reduceLT, Int.reduceNeg, Int.reduceToNat, Int.cast_ofNat_Int, exists_and_left, exists_eq_left', exists_eq_left, exists_eq', not_true_eq_false, not_false_eq_true, Int.toNat_natCast, Nat.reduceLT, Nat.reduceLeDiff, ne_eq, big, Nat.zero_le, List.length_map, List.getElem?_map, Option.map_some, Option.map_none, Int.reducePow, Nat.reducePow, mk]
        exact fin _ _ ho
    · refine ⟨dv, by omega, by omega, loop _ _ _ _ (by omega) _ _ (fun y o h' D' ho hn => ?_) fun y o ho => ?_⟩
      · simp (maxSteps := 2000000) only [wSs, inW, wComp, wFor, wSs_nil, wS, wE, wEs, wO, wC, wI, binW, binI, cmpW, truW, itemW, sliceW, revW, stpW, xtW, storeW, biW, isT, isxW, isxsW, miW, isL, getL, getD, listW, seqW, walkW, fldW, insW, stfW, getO, putZ, pairW, dgetW, isD, smW, isS, tgt, tgts, wipeZ, grdOk, eqW_int, enter, List.map_cons, List.map_nil, List.length_cons, List.length_nil, List.replicate_succ, List.replicate_zero, Nat.add_sub_cancel, Nat.sub_self, Nat.zero_add, List.cons_append, List.nil_append, List.getElem?_cons_zero, List.getElem?_cons_succ, List.set_cons_zero, List.set_cons_succ, if_true, if_false, ite_true, ite_false, Bool.not_true, Bool.not_false, Bool.true_eq_false, Bool.false_eq_true, true_and, and_true, reduceCtorEq, Option.some.injEq, false_and, and_false, false_or, or_false, true_or, or_true, Nat.reduceAdd, Nat.reduceSub, List.isEmpty_cons, List.isEmpty_nil, beq_self_eq_true, decide_true, decide_false, Bool.false_or, Bool.true_or, Bool.or_false, Bool.or_true, Bool.and_true, Bool.and_false, Bool.true_and, Bool.false_and, reduceIte, dite_true, dite_false, beq_iff_eq, decide_eq_true_eq, bne_iff_ne, ixN_int, Int.reduceLE, Int.reduceLT, Int.reduceNeg, Int.reduceToNat, Int.cast_ofNat_Int, exists_and_left, exists_eq_left', exists_eq_left, exists_eq', not_true_eq_false, not_false_eq_true, Int.toNat_natCast, Nat.reduceLT, Nat.reduceLeDiff, ne_eq, big, Nat.zero_le, List.length_map, List.getElem?_map, Option.map_some, Option.map_none, Int.reducePow, Nat.reducePow, pw, d10]
        exact hn _ (Int.ediv_nonneg ho (by decide))
      · simp (maxSteps := 2000000) only [wSs, inW, wComp, wFor, wSs_nil, wS, wE, wEs, wO, wC, wI, binW, binI, cmpW, truW, itemW, sliceW, revW, stpW, xtW, storeW, biW, isT, isxW, isxsW, miW, isL, getL, getD, listW, seqW, walkW, fldW, insW, stfW, getO, putZ, pairW, dgetW, isD, smW, isS, tgt, tgts, wipeZ, grdOk, eqW_int, enter, List.map_cons, List.map_nil, List.length_cons, List.length_nil, List.replicate_succ, List.replicate_zero, Nat.add_sub_cancel, Nat.sub_self, Nat.zero_add, List.cons_append, List.nil_append, List.getElem?_cons_zero, List.getElem?_cons_succ, List.set_cons_zero, List.set_cons_succ, if_true, if_false, ite_true, ite_false, Bool.not_true, Bool.not_false, Bool.true_eq_false, Bool.false_eq_true, true_and, and_true, reduceCtorEq, Option.some.injEq, false_and, and_false, false_or, or_false, true_or, or_true, Nat.reduceAdd, Nat.reduceSub, List.isEmpty_cons, List.isEmpty_nil, beq_self_eq_true, decide_true, decide_false, Bool.false_or, Bool.true_or, Bool.or_false, Bool.or_true, Bool.and_true, Bool.and_false, Bool.true_and, Bool.false_and, reduceIte, dite_true, dite_false, beq_iff_eq, decide_eq_true_eq, bne_iff_ne, ixN_int, Int.reduceLE, Int.reduceLT, Int.reduceNeg, Int.reduceToNat, Int.cast_ofNat_Int, exists_and_left, exists_eq_left', exists_eq_left, exists_eq', not_true_eq_false, not_false_eq_true, Int.toNat_natCast, Nat.reduceLT, Nat.reduceLeDiff, ne_eq, big, Nat.zero_le, List.length_map, List.getElem?_map, Option.map_some, Option.map_none, Int.reducePow, Nat.reducePow, mk]
        exact fin _ _ ho
/-! draws as heaps go on -/
theorem IsDraw.lt {h : Hep} {d : Nat} {B : Int} (a : IsDraw h d B) : d < h.length := by
  obtain ⟨_, _, _, e, _⟩ := a
  exact lt_of_get e
theorem IsDraw.app {h j : Hep} {d : Nat} {B : Int} (a : IsDraw h d B) : IsDraw (h ++ j) d B := by
  obtain ⟨c, n, o, e, r⟩ := a
  exact ⟨c, n, o, app_get e, r⟩
theorem IsDraw.set {h : Hep} {d r : Nat} {o : Ob} {B : Int} (a : IsDraw h d B) (n : d ≠ r) : IsDraw (h.set r o) d B := by
  obtain ⟨c, n', o', e, r'⟩ := a
  exact ⟨c, n', o', by rw [List.getElem?_set_ne (Ne.symm n)]; exact e, r'⟩
theorem IsDraw.le {h : Hep} {d : Nat} {B B' : Int} (a : IsDraw h d B) (l : B ≤ B') : IsDraw h d B' := by
  obtain ⟨c, n', o', e, r', r2, r3⟩ := a
  exact ⟨c, n', o', e, r', by omega, r3⟩
theorem nextB {h h' : Hep} {d : Nat} (l : h'.length = h.length) (e : ∀ q, q ≠ d → h'[q]? = h[q]?) : ExtB d h h' := ⟨by omega, fun q o n k => by rw [e q n]; exact k⟩
end Com

namespace Law
open PySem L2 Z
def top (i : Nat) : Stmt := PySem.Challenge.pw_boundsmith_k34_whole_parted_shown.main.body.getD i (.Pass ⟨0, 0, 0, 0⟩)
def cs : List (Str × PV) := [("MOST_TASKS", .int 30), ("MOST_LENGTH", .int 1000), ("MOST_HOUR", .int 1000000), ("MOST_WEIGHT", .int 1000)]
def inCls (s : Stmt) (j : Nat) : Stmt := match s with
  | .ClassDef _ _ _ b .. => b.getD j (.Pass ⟨0, 0, 0, 0⟩)
  | _ => .Pass ⟨0, 0, 0, 0⟩
/-! is_whole: slots 0=thing; callees  -/
abbrev s_is_whole : Stmt := top 4
def ir_is_whole : List Sm := [
  .ret (.and (.isi (.var 0) .int) (.not (.isi (.var 0) .bool)))]
theorem sc_is_whole : FnScope ["thing"] ["thing"] (defScope s_is_whole) := ⟨rfl, rfl, rfl, by decide +kernel, rfl, by decide +kernel, by decide +kernel⟩
theorem lk_is_whole : mtSs [] cs ["thing"] (defScope s_is_whole) ir_is_whole (defBody s_is_whole) = true := by decide +kernel
/-! is_among: slots 0=thing 1=least 2=most; callees 0=is_whole -/
abbrev s_is_among : Stmt := top 5
def ir_is_among : List Sm := [
  .ret (.and (.call 0 [(.var 0)]) (.chn .LtE .LtE (.var 1) (.var 0) (.var 2)))]
theorem sc_is_among : FnScope ["thing", "least", "most"] ["thing", "least", "most"] (defScope s_is_among) := ⟨rfl, rfl, rfl, by decide +kernel, rfl, by decide +kernel, by decide +kernel⟩
theorem lk_is_among : mtSs ["is_whole"] cs ["thing", "least", "most"] (defScope s_is_among) ir_is_among (defBody s_is_among) = true := by decide +kernel
/-! is_work: slots 0=thing 1=hour; callees 0=is_among -/
abbrev s_is_work : Stmt := top 11
def ir_is_work : List Sm := [
  .ife (.or (.not (.isi (.var 0) .tuple)) (.or (.cmp .NotEq (.bi .len [(.var 0)]) (.int 4)) (.not (.call 0 [(.idx (.var 0) (.int 0)), (.int 1), (.con "MOST_LENGTH" (.int 1000))])))) [.ret (.bl false)] [],
  .ret (.and (.bi .all [(.comp [1] (.nm 1) (.wlk (.slc (.var 0) (some (.int 1)) (some (.int 3)))) none (.call 0 [(.var 1), (.int 0), (.con "MOST_HOUR" (.int 1000000))]))]) (.call 0 [(.idx (.var 0) (.int 3)), (.int 0), (.con "MOST_WEIGHT" (.int 1000))]))]
theorem sc_is_work : FnScope ["thing", "hour"] ["thing"] (defScope s_is_work) := ⟨rfl, rfl, rfl, by decide +kernel, rfl, by decide +kernel, by decide +kernel⟩
theorem lk_is_work : mtSs ["is_among"] cs ["thing", "hour"] (defScope s_is_work) ir_is_work (defBody s_is_work) = true := by decide +kernel
/-! need_rows: slots 0=rows 1=row; callees 0=is_work -/
abbrev s_need_rows : Stmt := top 12
def ir_need_rows : List Sm := [
  .ife (.or (.not (.isi (.var 0) .list)) (.or (.not (.chn .LtE .LtE (.int 1) (.bi .len [(.var 0)]) (.con "MOST_TASKS" (.int 30)))) (.not (.bi .all [(.comp [1] (.nm 1) (.wlk (.var 0)) none (.call 0 [(.var 1)]))])))) [.nev /- Raise -/] []]
theorem sc_need_rows : FnScope ["rows", "row"] ["rows"] (defScope s_need_rows) := ⟨rfl, rfl, rfl, by decide +kernel, rfl, by decide +kernel, by decide +kernel⟩
theorem lk_need_rows : mtSs ["is_work"] cs ["rows", "row"] (defScope s_need_rows) ir_need_rows (defBody s_need_rows) = true := by decide +kernel
/-! due_order: slots 0=rows 1=due 2=number 3=row; callees  -/
abbrev s_due_order : Stmt := top 13
def ir_due_order : List Sm := [
  .ret (.comp [1, 2] (.tp [(.nm 1), (.nm 2)]) (.wlk (.bi .sorted [(.comp [2, 3] (.tp [(.nm 2), (.nm 3)]) (.enum (.var 0)) none (.tup [(.idx (.var 3) (.int 2)), (.var 2)]))])) none (.var 2))]
theorem sc_due_order : FnScope ["rows", "due", "number", "row"] ["rows"] (defScope s_due_order) := ⟨rfl, rfl, rfl, by decide +kernel, rfl, by decide +kernel, by decide +kernel⟩
theorem lk_due_order : mtSs [] cs ["rows", "due", "number", "row"] (defScope s_due_order) ir_due_order (defBody s_due_order) = true := by decide +kernel
/-! least_late: slots 0=rows 1=order 2=end 3=best 4=place 5=number 6=late; callees 0=need_rows 1=due_order -/
abbrev s_least_late : Stmt := top 14
def ir_least_late : List Sm := [
  .exp (.call 0 [(.var 0)]),
  .set (.nm 1) (.call 1 [(.var 0)]),
  .set (.nm 2) (.int 0),
  .set (.nm 3) .non,
  .for_ (.tp [(.nm 4), (.nm 5)]) (.enum (.var 1)) [.aug 2 .Add (.idx (.idx (.var 0) (.var 5)) (.int 0)), .set (.nm 6) (.bin .Sub (.var 2) (.idx (.idx (.var 0) (.var 5)) (.int 2))), .ife (.or (.cmp .Is (.var 3) .non) (.cmp .Gt (.var 6) (.idx (.var 3) (.int 0)))) [.set (.nm 3) (.tup [(.var 6), (.bi .sorted [(.slc (.var 1) none (some (.bin .Add (.var 4) (.int 1))))])])] []],
  .ret (.tup [(.idx (.var 3) (.int 0)), (.var 1), (.idx (.var 3) (.int 1))])]
theorem sc_least_late : FnScope ["rows", "order", "end", "best", "place", "number", "late"] ["rows"] (defScope s_least_late) := ⟨rfl, rfl, rfl, by decide +kernel, rfl, by decide +kernel, by decide +kernel⟩
theorem lk_least_late : mtSs ["need_rows", "due_order"] cs ["rows", "order", "end", "best", "place", "number", "late"] (defScope s_least_late) ir_least_late (defBody s_least_late) = true := by decide +kernel
/-! Work.__init__: slots 0=self 1=rows 2=row; callees 0=cl:Work -/
abbrev s_Work___init__ : Stmt := inCls (top 15) 0
def ir_Work___init__ : List Sm := [
  .stf (.var 0) "Work" "rows" (.var 1),
  .stf (.var 0) "Work" "left" (.comp [2] (.nm 2) (.wlk (.var 1)) none (.idx (.var 2) (.int 0))),
  .stf (.var 0) "Work" "hour" (.int 0),
  .stf (.var 0) "Work" "pieces" (.lst []),
  .stf (.var 0) "Work" "done_at" (.bin .Mult (.lst [(.int 0)]) (.bi .len [(.var 1)]))]
theorem sc_Work___init__ : FnScope ["self", "rows", "row"] ["self", "rows"] (defScope s_Work___init__) := ⟨rfl, rfl, rfl, by decide +kernel, rfl, by decide +kernel, by decide +kernel⟩
theorem lk_Work___init__ : mtSs [.cl "Work" ["done_at", "hour", "left", "pieces", "rows"]] cs ["self", "rows", "row"] (defScope s_Work___init__) ir_Work___init__ (defBody s_Work___init__) = true := by decide +kernel
/-! Work.who_works: slots 0=self 1=some 2=number 3=row; callees 0=cl:Work -/
abbrev s_Work_who_works : Stmt := inCls (top 15) 1
def ir_Work_who_works : List Sm := [
  .set (.nm 1) (.lst []),
  .for_ (.tp [(.nm 2), (.nm 3)]) (.enum (.fld (.var 0) "Work" "rows")) [.ife (.and (.cmp .Gt (.idx (.fld (.var 0) "Work" "left") (.var 2)) (.int 0)) (.cmp .LtE (.idx (.var 3) (.int 1)) (.fld (.var 0) "Work" "hour"))) [.exp (.mi .append (.var 1) [(.tup [(.idx (.var 3) (.int 2)), (.var 2)])])] []],
  .ret (.ife (.cmp .NotEq (.var 1) (.lst [])) (.idx (.bi .minp [(.var 1)]) (.int 1)) .non)]
theorem sc_Work_who_works : FnScope ["self", "some", "number", "row"] ["self"] (defScope s_Work_who_works) := ⟨rfl, rfl, rfl, by decide +kernel, rfl, by decide +kernel, by decide +kernel⟩
theorem lk_Work_who_works : mtSs [.cl "Work" ["done_at", "hour", "left", "pieces", "rows"]] cs ["self", "some", "number", "row"] (defScope s_Work_who_works) ir_Work_who_works (defBody s_Work_who_works) = true := by decide +kernel
/-! Work.next_come: slots 0=self 1=row; callees 0=cl:Work -/
abbrev s_Work_next_come : Stmt := inCls (top 15) 2
def ir_Work_next_come : List Sm := [
  .ret (.mdf false (.comp [1] (.nm 1) (.wlk (.fld (.var 0) "Work" "rows")) (some (.cmp .Gt (.idx (.var 1) (.int 1)) (.fld (.var 0) "Work" "hour"))) (.idx (.var 1) (.int 1))))]
theorem sc_Work_next_come : FnScope ["self", "row"] ["self"] (defScope s_Work_next_come) := ⟨rfl, rfl, rfl, by decide +kernel, rfl, by decide +kernel, by decide +kernel⟩
theorem lk_Work_next_come : mtSs [.cl "Work" ["done_at", "hour", "left", "pieces", "rows"]] cs ["self", "row"] (defScope s_Work_next_come) ir_Work_next_come (defBody s_Work_next_come) = true := by decide +kernel
/-! Work.go_on: slots 0=self 1=number 2=behind 3=done; callees 0=me:Work.who_works 1=me:Work.next_come 2=cl:Work 3=me:Work.put -/
abbrev s_Work_go_on : Stmt := inCls (top 15) 3
def ir_Work_go_on : List Sm := [
  .set (.nm 1) (.mth 0 "Work" "who_works" (.var 0) []),
  .set (.nm 2) (.mth 1 "Work" "next_come" (.var 0) []),
  .ife (.cmp .Is (.var 1) .non) [.stf (.var 0) "Work" "hour" (.var 2), .retN] [],
  .set (.nm 3) (.bin .Add (.fld (.var 0) "Work" "hour") (.idx (.fld (.var 0) "Work" "left") (.var 1))),
  .set (.nm 2) (.ife (.cmp .Is (.var 2) .non) (.var 3) (.bi .min2 [(.var 3), (.var 2)])),
  .augi (.fld (.var 0) "Work" "left") (.var 1) .Sub (.bin .Sub (.var 2) (.fld (.var 0) "Work" "hour")),
  .exp (.mth 3 "Work" "put" (.var 0) [(.var 1), (.var 2)]),
  .stf (.var 0) "Work" "hour" (.var 2),
  .ife (.cmp .Eq (.idx (.fld (.var 0) "Work" "left") (.var 1)) (.int 0)) [.sto (.fld (.var 0) "Work" "done_at") (.var 1) (.var 2)] []]
theorem sc_Work_go_on : FnScope ["self", "number", "behind", "done"] ["self"] (defScope s_Work_go_on) := ⟨rfl, rfl, rfl, by decide +kernel, rfl, by decide +kernel, by decide +kernel⟩
theorem lk_Work_go_on : mtSs [.me "Work" "who_works", .me "Work" "next_come", .cl "Work" ["done_at", "hour", "left", "pieces", "rows"], .me "Work" "put"] cs ["self", "number", "behind", "done"] (defScope s_Work_go_on) ir_Work_go_on (defBody s_Work_go_on) = true := by decide +kernel
/-! Work.put: slots 0=self 1=number 2=behind; callees 0=cl:Work -/
abbrev s_Work_put : Stmt := inCls (top 15) 4
def ir_Work_put : List Sm := [
  .ife (.and (.cmp .NotEq (.fld (.var 0) "Work" "pieces") (.lst [])) (.and (.cmp .Eq (.idx (.idx (.fld (.var 0) "Work" "pieces") (.neg (.int 1))) (.int 0)) (.var 1)) (.cmp .Eq (.idx (.idx (.fld (.var 0) "Work" "pieces") (.neg (.int 1))) (.int 2)) (.fld (.var 0) "Work" "hour")))) [.sto (.fld (.var 0) "Work" "pieces") (.neg (.int 1)) (.tup [(.var 1), (.idx (.idx (.fld (.var 0) "Work" "pieces") (.neg (.int 1))) (.int 1)), (.var 2)])] [.exp (.mi .append (.fld (.var 0) "Work" "pieces") [(.tup [(.var 1), (.fld (.var 0) "Work" "hour"), (.var 2)])])]]
theorem sc_Work_put : FnScope ["self", "number", "behind"] ["self", "number", "behind"] (defScope s_Work_put) := ⟨rfl, rfl, rfl, by decide +kernel, rfl, by decide +kernel, by decide +kernel⟩
theorem lk_Work_put : mtSs [.cl "Work" ["done_at", "hour", "left", "pieces", "rows"]] cs ["self", "number", "behind"] (defScope s_Work_put) ir_Work_put (defBody s_Work_put) = true := by decide +kernel
/-! crowd_to: slots 0=rows 1=pieces 2=last 3=end 4=due 5=here 6=found 7=number 8=first 9=behind; callees  -/
abbrev s_crowd_to : Stmt := top 16
def ir_crowd_to : List Sm := [
  .set (.nm 4) (.idx (.idx (.var 0) (.var 2)) (.int 2)),
  .set (.nm 5) (.var 3),
  .set (.nm 6) .dct,
  .for_ (.tp [(.nm 7), (.nm 8), (.nm 9)]) (.rvs (.var 1)) [.ife (.and (.cmp .Eq (.var 9) (.var 5)) (.cmp .LtE (.idx (.idx (.var 0) (.var 7)) (.int 2)) (.var 4))) [.sto (.var 6) (.var 7) (.bl true), .set (.nm 5) (.var 8)] []],
  .ret (.bi .sortedk [(.var 6)])]
theorem sc_crowd_to : FnScope ["rows", "pieces", "last", "end", "due", "here", "found", "number", "first", "behind"] ["rows", "pieces", "last", "end"] (defScope s_crowd_to) := ⟨rfl, rfl, rfl, by decide +kernel, rfl, by decide +kernel, by decide +kernel⟩
theorem lk_crowd_to : mtSs [] cs ["rows", "pieces", "last", "end", "due", "here", "found", "number", "first", "behind"] (defScope s_crowd_to) ir_crowd_to (defBody s_crowd_to) = true := by decide +kernel
/-! parted: slots 0=rows 1=work 2=late 3=end 4=row 5=last; callees 0=need_rows 1=mk:Work 2=cl:Work 3=me:Work.go_on 4=crowd_to -/
abbrev s_parted : Stmt := top 17
def ir_parted : List Sm := [
  .exp (.call 0 [(.var 0)]),
  .set (.nm 1) (.new 1 "Work" [(.var 0)]),
  .whl (.cmp .Gt (.bi .maxl [(.fld (.var 1) "Work" "left")]) (.int 0)) [.exp (.mth 3 "Work" "go_on" (.var 1) [])],
  .set (.nm 2) (.comp [3, 4] (.tp [(.nm 3), (.nm 4)]) (.zip (.fld (.var 1) "Work" "done_at") (.var 0)) none (.bin .Sub (.var 3) (.idx (.var 4) (.int 2)))),
  .set (.nm 5) (.mi .index (.var 2) [(.bi .maxl [(.var 2)])]),
  .ret (.tup [(.bi .maxl [(.var 2)]), (.bi .sorted [(.fld (.var 1) "Work" "pieces")]), (.call 4 [(.var 0), (.fld (.var 1) "Work" "pieces"), (.var 5), (.idx (.fld (.var 1) "Work" "done_at") (.var 5))])])]
theorem sc_parted : FnScope ["rows", "work", "late", "end", "row", "last"] ["rows"] (defScope s_parted) := ⟨rfl, rfl, rfl, by decide +kernel, rfl, by decide +kernel, by decide +kernel⟩
theorem lk_parted : mtSs ["need_rows", .mk "Work", .cl "Work" ["done_at", "hour", "left", "pieces", "rows"], .me "Work" "go_on", "crowd_to"] cs ["rows", "work", "late", "end", "row", "last"] (defScope s_parted) ir_parted (defBody s_parted) = true := by decide +kernel
/-! _law_mixed: slots 0=_law_cell 1=_law_k 2=_law_number; callees  -/
abbrev s__law_mixed : Stmt := top 19
def ir__law_mixed : List Sm := [
  .set (.nm 2) (.bin .Mod (.bin .Mult (.bin .Add (.bin .Add (.bin .Mod (.var 0) (.int 1000000007)) (.bin .Mult (.bin .Mult (.int 31) (.var 1)) (.var 1))) (.int 7)) (.int 48271)) (.int 2147483647)),
  .ret (.bin .Mod (.bin .Mult (.var 2) (.bin .Add (.int 16807) (.bin .Mult (.int 7919) (.var 1)))) (.int 2147483629))]
theorem sc__law_mixed : FnScope ["_law_cell", "_law_k", "_law_number"] ["_law_cell", "_law_k"] (defScope s__law_mixed) := ⟨rfl, rfl, rfl, by decide +kernel, rfl, by decide +kernel, by decide +kernel⟩
theorem lk__law_mixed : mtSs [] cs ["_law_cell", "_law_k", "_law_number"] (defScope s__law_mixed) ir__law_mixed (defBody s__law_mixed) = true := by decide +kernel
/-! _law_draw: slots 0=_law_script 1=_law_k 2=_law_cell 3=_law_own 4=_law_turn; callees  -/
abbrev s__law_draw : Stmt := top 20
def ir__law_draw : List Sm := [
  .set (.nm 2) (.ife (.cmp .NotEq (.var 0) (.lst [])) (.idx (.var 0) (.bin .Mod (.var 1) (.bi .len [(.var 0)]))) (.int 0)),
  .set (.nm 3) (.ife (.cmp .GtE (.var 2) (.bin .Pow (.int 10) (.int 18))) (.var 2) (.int 0)),
  .for_ (.nm 4) (.rng1 (.bin .FloorDiv (.var 1) (.bi .max2 [(.int 1), (.bi .len [(.var 0)])]))) [.set (.nm 3) (.bin .FloorDiv (.var 3) (.bin .Pow (.int 10) (.int 18)))],
  .ret (.lst [(.var 2), (.bin .Mult (.int 64) (.var 1)), (.var 3)])]
theorem sc__law_draw : FnScope ["_law_script", "_law_k", "_law_cell", "_law_own", "_law_turn"] ["_law_script", "_law_k"] (defScope s__law_draw) := ⟨rfl, rfl, rfl, by decide +kernel, rfl, by decide +kernel, by decide +kernel⟩
theorem lk__law_draw : mtSs [] cs ["_law_script", "_law_k", "_law_cell", "_law_own", "_law_turn"] (defScope s__law_draw) ir__law_draw (defBody s__law_draw) = true := by decide +kernel
/-! _law_next: slots 0=_law_draw_here 1=_law_many 2=_law_found 3=_law_number; callees 0=_law_mixed -/
abbrev s__law_next : Stmt := top 21
def ir__law_next : List Sm := [
  .ife (.cmp .Gt (.idx (.var 0) (.int 2)) (.int 0)) [.set (.nm 2) (.bin .Mod (.idx (.var 0) (.int 2)) (.var 1)), .sto (.var 0) (.int 2) (.bin .FloorDiv (.idx (.var 0) (.int 2)) (.var 1)), .ret (.var 2)] [],
  .sto (.var 0) (.int 1) (.bin .Add (.idx (.var 0) (.int 1)) (.int 1)),
  .set (.nm 3) (.bin .Add (.bin .Mult (.call 0 [(.idx (.var 0) (.int 0)), (.idx (.var 0) (.int 1))]) (.int 2147483629)) (.call 0 [(.idx (.var 0) (.int 0)), (.bin .Add (.idx (.var 0) (.int 1)) (.int 9001))])),
  .ret (.bin .Mod (.bin .FloorDiv (.var 3) (.int 11)) (.var 1))]
theorem sc__law_next : FnScope ["_law_draw_here", "_law_many", "_law_found", "_law_number"] ["_law_draw_here", "_law_many"] (defScope s__law_next) := ⟨rfl, rfl, rfl, by decide +kernel, rfl, by decide +kernel, by decide +kernel⟩
theorem lk__law_next : mtSs ["_law_mixed"] cs ["_law_draw_here", "_law_many", "_law_found", "_law_number"] (defScope s__law_next) ir__law_next (defBody s__law_next) = true := by decide +kernel
/-! _law_work: slots 0=_law_draw_here 1=_law_length 2=_law_first 3=_law_due; callees 0=_law_next -/
abbrev s__law_work : Stmt := top 22
def ir__law_work : List Sm := [
  .set (.nm 1) (.bin .Add (.int 1) (.idx (.lst [(.call 0 [(.var 0), (.int 6)]), (.call 0 [(.var 0), (.int 1000)])]) (.bin .FloorDiv (.call 0 [(.var 0), (.int 8)]) (.int 7)))),
  .set (.nm 2) (.idx (.lst [(.int 0), (.call 0 [(.var 0), (.int 20)]), (.call 0 [(.var 0), (.int 1000001)])]) (.bin .FloorDiv (.call 0 [(.var 0), (.int 12)]) (.int 5))),
  .set (.nm 3) (.idx (.lst [(.call 0 [(.var 0), (.int 12)]), (.call 0 [(.var 0), (.int 60)]), (.call 0 [(.var 0), (.int 1000001)])]) (.bin .FloorDiv (.call 0 [(.var 0), (.int 12)]) (.int 5))),
  .ret (.tup [(.var 1), (.var 2), (.var 3), (.idx (.lst [(.int 0), (.int 1), (.call 0 [(.var 0), (.int 6)]), (.call 0 [(.var 0), (.int 1001)])]) (.call 0 [(.var 0), (.int 4)]))])]
theorem sc__law_work : FnScope ["_law_draw_here", "_law_length", "_law_first", "_law_due"] ["_law_draw_here"] (defScope s__law_work) := ⟨rfl, rfl, rfl, by decide +kernel, rfl, by decide +kernel, by decide +kernel⟩
theorem lk__law_work : mtSs ["_law_next"] cs ["_law_draw_here", "_law_length", "_law_first", "_law_due"] (defScope s__law_work) ir__law_work (defBody s__law_work) = true := by decide +kernel
/-! _law_rows: slots 0=_law_script 1=_law_k 2=_law_most 3=_law_draw_here 4=_law_found 5=_law_j; callees 0=_law_draw 1=_law_next 2=_law_work -/
abbrev s__law_rows : Stmt := top 23
def ir__law_rows : List Sm := [
  .set (.nm 3) (.call 0 [(.var 0), (.var 1)]),
  .set (.nm 4) (.comp [5] (.nm 5) (.rng1 (.bin .Add (.int 1) (.call 1 [(.var 3), (.var 2)]))) none (.call 2 [(.call 0 [(.var 0), (.bin .Add (.bin .Add (.var 1) (.int 1)) (.var 5))])])),
  .ife (.cmp .Eq (.call 1 [(.var 3), (.int 4)]) (.int 1)) [.sto (.var 4) (.neg (.int 1)) (.idx (.var 4) (.int 0))] [],
  .ret (.var 4)]
theorem sc__law_rows : FnScope ["_law_script", "_law_k", "_law_most", "_law_draw_here", "_law_found", "_law_j"] ["_law_script", "_law_k", "_law_most"] (defScope s__law_rows) := ⟨rfl, rfl, rfl, by decide +kernel, rfl, by decide +kernel, by decide +kernel⟩
theorem lk__law_rows : mtSs ["_law_draw", "_law_next", "_law_work"] cs ["_law_script", "_law_k", "_law_most", "_law_draw_here", "_law_found", "_law_j"] (defScope s__law_rows) ir__law_rows (defBody s__law_rows) = true := by decide +kernel
/-! _law_order: slots 0=_law_draw_here 1=_law_many 2=_law_left 3=_law_turn; callees 0=_law_next -/
abbrev s__law_order : Stmt := top 24
def ir__law_order : List Sm := [
  .set (.nm 2) (.bi .listrange [(.var 1)]),
  .ret (.comp [3] (.nm 3) (.rng1 (.var 1)) none (.mi .popAt (.var 2) [(.call 0 [(.var 0), (.bi .len [(.var 2)])])]))]
theorem sc__law_order : FnScope ["_law_draw_here", "_law_many", "_law_left", "_law_turn"] ["_law_draw_here", "_law_many"] (defScope s__law_order) := ⟨rfl, rfl, rfl, by decide +kernel, rfl, by decide +kernel, by decide +kernel⟩
theorem lk__law_order : mtSs ["_law_next"] cs ["_law_draw_here", "_law_many", "_law_left", "_law_turn"] (defScope s__law_order) ir__law_order (defBody s__law_order) = true := by decide +kernel
/-! _law_pieces_right: slots 0=_law_rows_here 1=_law_pieces 2=_law_hours 3=_law_number 4=_law_first 5=_law_behind 6=_law_order_here 7=_law_pair 8=_law_row; callees  -/
abbrev s__law_pieces_right : Stmt := top 25
def ir__law_pieces_right : List Sm := [
  .set (.nm 2) (.bin .Mult (.lst [(.int 0)]) (.bi .len [(.var 0)])),
  .for_ (.tp [(.nm 3), (.nm 4), (.nm 5)]) (.wlk (.var 1)) [.ife (.or (.cmp .Lt (.var 4) (.idx (.idx (.var 0) (.var 3)) (.int 1))) (.cmp .LtE (.var 5) (.var 4))) [.ret (.bl false)] [], .sto (.var 2) (.var 3) (.bin .Sub (.bin .Add (.idx (.var 2) (.var 3)) (.var 5)) (.var 4))],
  .set (.nm 6) (.bi .sorted [(.comp [3, 4, 5] (.tp [(.nm 3), (.nm 4), (.nm 5)]) (.wlk (.var 1)) none (.tup [(.var 4), (.var 5)]))]),
  .ife (.cmp .NotEq (.comp [7] (.nm 7) (.zipn (.var 6) (.slc (.var 6) (some (.int 1)) none)) (some (.cmp .Lt (.idx (.idx (.var 7) (.int 1)) (.int 0)) (.idx (.idx (.var 7) (.int 0)) (.int 1)))) (.var 7)) (.lst [])) [.ret (.bl false)] [],
  .ret (.cmp .Eq (.var 2) (.comp [8] (.nm 8) (.wlk (.var 0)) none (.idx (.var 8) (.int 0))))]
theorem sc__law_pieces_right : FnScope ["_law_rows_here", "_law_pieces", "_law_hours", "_law_number", "_law_first", "_law_behind", "_law_order_here", "_law_pair", "_law_row"] ["_law_rows_here", "_law_pieces"] (defScope s__law_pieces_right) := ⟨rfl, rfl, rfl, by decide +kernel, rfl, by decide +kernel, by decide +kernel⟩
theorem lk__law_pieces_right : mtSs [] cs ["_law_rows_here", "_law_pieces", "_law_hours", "_law_number", "_law_first", "_law_behind", "_law_order_here", "_law_pair", "_law_row"] (defScope s__law_pieces_right) ir__law_pieces_right (defBody s__law_pieces_right) = true := by decide +kernel
/-! _law_later: slots 0=_law_rows_here 1=_law_order_here 2=_law_end 3=_law_found 4=_law_number; callees  -/
abbrev s__law_later : Stmt := top 26
def ir__law_later : List Sm := [
  .set (.nm 2) (.int 0),
  .set (.nm 3) (.lst []),
  .for_ (.nm 4) (.wlk (.var 1)) [.set (.nm 2) (.bin .Add (.bi .max2 [(.var 2), (.idx (.idx (.var 0) (.var 4)) (.int 1))]) (.idx (.idx (.var 0) (.var 4)) (.int 0))), .exp (.mi .append (.var 3) [(.bin .Sub (.var 2) (.idx (.idx (.var 0) (.var 4)) (.int 2)))])],
  .ret (.bi .maxl [(.var 3)])]
theorem sc__law_later : FnScope ["_law_rows_here", "_law_order_here", "_law_end", "_law_found", "_law_number"] ["_law_rows_here", "_law_order_here"] (defScope s__law_later) := ⟨rfl, rfl, rfl, by decide +kernel, rfl, by decide +kernel, by decide +kernel⟩
theorem lk__law_later : mtSs [] cs ["_law_rows_here", "_law_order_here", "_law_end", "_law_found", "_law_number"] (defScope s__law_later) ir__law_later (defBody s__law_later) = true := by decide +kernel
/-! law: slots 0=_law_script 1=_law_rows_here 2=_law_late 3=_law_pieces 4=_law_some 5=_law_ends 6=_law_number 7=_law_piece 8=_law_end 9=_law_row 10=_law_own 11=_law_one 12=_law_k 13=_law_draw_here 14=_law_plain 15=_law_length 16=_law_first 17=_law_due 18=_law_weight 19=_law_more 20=_law_shifted; callees 0=_law_rows 1=parted 2=_law_pieces_right 3=_law_draw 4=_law_later 5=_law_order 6=_law_next 7=least_late -/
abbrev s_law : Stmt := top 27
def ir_law : List Sm := [
  .set (.nm 1) (.call 0 [(.var 0), (.int 0), (.int 30)]),
  .set (.tp [(.nm 2), (.nm 3), (.nm 4)]) (.call 1 [(.var 1)]),
  .ife (.not (.call 2 [(.var 1), (.var 3)])) [.ret (.bl false)] [],
  .set (.nm 5) (.comp [6] (.nm 6) (.rng1 (.bi .len [(.var 1)])) none (.bi .maxl [(.comp [7] (.nm 7) (.wlk (.var 3)) (some (.cmp .Eq (.idx (.var 7) (.int 0)) (.var 6))) (.idx (.var 7) (.int 2)))])),
  .ife (.cmp .NotEq (.bi .maxl [(.comp [8, 9] (.tp [(.nm 8), (.nm 9)]) (.zip (.var 5) (.var 1)) none (.bin .Sub (.var 8) (.idx (.var 9) (.int 2))))]) (.var 2)) [.ret (.bl false)] [],
  .set (.nm 10) (.comp [11] (.nm 11) (.wlk (.var 4)) none (.idx (.var 1) (.var 11))),
  .ife (.cmp .NotEq (.bin .Sub (.bin .Add (.bi .minl [(.comp [9] (.nm 9) (.wlk (.var 10)) none (.idx (.var 9) (.int 1)))]) (.bi .sum [(.comp [9] (.nm 9) (.wlk (.var 10)) none (.idx (.var 9) (.int 0)))])) (.bi .maxl [(.comp [9] (.nm 9) (.wlk (.var 10)) none (.idx (.var 9) (.int 2)))])) (.var 2)) [.ret (.bl false)] [],
  .for_ (.nm 12) (.rng1 (.int 4)) [.set (.nm 13) (.call 3 [(.var 0), (.bin .Add (.int 40) (.var 12))]), .ife (.cmp .Lt (.call 4 [(.var 1), (.call 5 [(.var 13), (.bi .len [(.var 1)])])]) (.var 2)) [.ret (.bl false)] []],
  .set (.nm 14) (.comp [15, 16, 17, 18] (.tp [(.nm 15), (.nm 16), (.nm 17), (.nm 18)]) (.wlk (.var 1)) none (.tup [(.var 15), (.int 0), (.var 17), (.var 18)])),
  .set (.nm 19) (.call 6 [(.call 3 [(.var 0), (.int 44)]), (.int 50)]),
  .set (.nm 20) (.comp [15, 16, 17, 18] (.tp [(.nm 15), (.nm 16), (.nm 17), (.nm 18)]) (.wlk (.var 14)) none (.tup [(.var 15), (.bi .min2 [(.int 1000000), (.var 19)]), (.var 17), (.var 18)])),
  .ret (.and (.cmp .Eq (.idx (.call 1 [(.var 14)]) (.int 0)) (.idx (.call 7 [(.var 1)]) (.int 0))) (.cmp .Eq (.idx (.call 1 [(.var 20)]) (.int 0)) (.bin .Add (.idx (.call 7 [(.var 1)]) (.int 0)) (.var 19))))]
theorem sc_law : FnScope ["_law_script", "_law_rows_here", "_law_late", "_law_pieces", "_law_some", "_law_ends", "_law_number", "_law_piece", "_law_end", "_law_row", "_law_own", "_law_one", "_law_k", "_law_draw_here", "_law_plain", "_law_length", "_law_first", "_law_due", "_law_weight", "_law_more", "_law_shifted"] ["_law_script"] (defScope s_law) := ⟨rfl, rfl, rfl, by decide +kernel, rfl, by decide +kernel, by decide +kernel⟩
theorem lk_law : mtSs ["_law_rows", "parted", "_law_pieces_right", "_law_draw", "_law_later", "_law_order", "_law_next", "least_late"] cs ["_law_script", "_law_rows_here", "_law_late", "_law_pieces", "_law_some", "_law_ends", "_law_number", "_law_piece", "_law_end", "_law_row", "_law_own", "_law_one", "_law_k", "_law_draw_here", "_law_plain", "_law_length", "_law_first", "_law_due", "_law_weight", "_law_more", "_law_shifted"] (defScope s_law) ir_law (defBody s_law) = true := by decide +kernel

end Law

/-! rows of work -/
namespace Law
open PySem Z Com
theorem mulOk_l {i j : Int} (h1 : 0 ≤ i) (h2 : i < 2 ^ 64) : mulOk i j := .inl ⟨by omega, h2⟩
theorem IsDraw_ext {h h' : Hep} {d : Nat} {B : Int} (a : IsDraw h d B) (x : Ext h h') : IsDraw h' d B := by
  obtain ⟨c, n, o, e, r⟩ := a
  exact ⟨c, n, o, x _ _ e, r⟩
def sp_is_whole : Z.Spec := inl [] 1 1 ir_is_whole
theorem mt_is_whole : Meets [] 1 1 ir_is_whole sp_is_whole := mt_inl
def sp_is_among : Z.Spec := inl [sp_is_whole] 3 3 ir_is_among
theorem mt_is_among : Meets [sp_is_whole] 3 3 ir_is_among sp_is_among := mt_inl
theorem among_int {i lo hi : Int} {h : Hep} {F : KQ} {E : KX} (h1 : lo ≤ i) (h2 : i ≤ hi) (k : F (.bl true) h) : sp_is_among [.int i, .int lo, .int hi] h F E := by
  unfold sp_is_among sp_is_whole
  simp (maxSteps := 2000000) only [wSs, inW, wComp, wFor, wSs_nil, wS, wE, wEs, wO, wC, wI, binW, binI, cmpW, truW, itemW, sliceW, revW, stpW, xtW, storeW, biW, isT, isxW, isxsW, miW, isL, getL, getD, listW, seqW, walkW, fldW, insW, stfW, getO, putZ, pairW, dgetW, isD, smW, isS, tgt, tgts, wipeZ, grdOk, eqW_int, enter, List.map_cons, List.map_nil, List.length_cons, List.length_nil, List.replicate_succ, List.replicate_zero, Nat.add_sub_cancel, Nat.sub_self, Nat.zero_add, List.cons_append, List.nil_append, List.getElem?_cons_zero, List.getElem?_cons_succ, List.set_cons_zero, List.set_cons_succ, if_true, if_false, ite_true, ite_false, Bool.not_true, Bool.not_false, Bool.true_eq_false, Bool.false_eq_true, true_and, and_true, reduceCtorEq, Option.some.injEq, false_and, and_false, false_or, or_false, true_or, or_true, Nat.reduceAdd, Nat.reduceSub, List.isEmpty_cons, List.isEmpty_nil, beq_self_eq_true, decide_true, decide_false, Bool.false_or, Bool.true_or, Bool.or_false, Bool.or_true, Bool.and_true, Bool.and_false, Bool.true_and, Bool.false_and, reduceIte, dite_true, dite_false, beq_iff_eq, decide_eq_true_eq, bne_iff_ne, ixN_int, Int.reduceLE, Int.reduceLT, Int.reduceNeg, Int.reduceToNat, Int.cast_ofNat_Int, exists_and_left, exists_eq_left', exists_eq_left, exists_eq', not_true_eq_false, not_false_eq_true, Int.toNat_natCast, Nat.reduceLT, Nat.reduceLeDiff, ne_eq, big, Nat.zero_le, List.length_map, List.getElem?_map, Option.map_some, Option.map_none, Int.reducePow, Nat.reducePow, inl, ir_is_among, ir_is_whole, beq_self_eq_true, h1, h2]
  exact k
/-- a row of work: length, first hour, due hour, weight -/
abbrev Row := Int × Int × Int × Int
abbrev Rows := List Row
def rowV (r : Row) : PV := .tup [.int r.1, .int r.2.1, .int r.2.2.1, .int r.2.2.2]
def GoodRow (r : Row) : Prop := (1 ≤ r.1 ∧ r.1 ≤ 1000) ∧ (0 ≤ r.2.1 ∧ r.2.1 ≤ 1000000) ∧ (0 ≤ r.2.2.1 ∧ r.2.2.1 ≤ 1000000) ∧ 0 ≤ r.2.2.2 ∧ r.2.2.2 ≤ 1000
def atR (rows : Rows) (i : Int) : Row := (rows[i.toNat]?).getD (0, 0, 0, 0)
def lenR (rows : Rows) (i : Int) : Int := (atR rows i).1
def dueR (rows : Rows) (i : Int) : Int := (atR rows i).2.2.1
def wgtR (rows : Rows) (i : Int) : Int := (atR rows i).2.2.2
theorem rows_get {rows : Rows} {i : Int} (h0 : 0 ≤ i) (h1 : i < rows.length) : rows[i.toNat]? = some (atR rows i) := by
  unfold atR
  rw [List.getElem?_eq_getElem (by omega)]
  rfl
theorem atR_nat {rows : Rows} {j : Nat} {r : Row} (e : rows[j]? = some r) : atR rows (j : Int) = r := by
  unfold atR
  rw [Int.toNat_natCast, e]; rfl
theorem atR_good {rows : Rows} {i : Int} (h0 : 0 ≤ i) (h1 : i < rows.length) (g : ∀ p ∈ rows, GoodRow p) : GoodRow (atR rows i) := g _ (List.mem_of_getElem? (rows_get h0 h1))
def sp_is_work : Z.Spec := fun args h F _ => ∃ r, args = [rowV r] ∧ GoodRow r ∧ ∀ h', Ext h h' → F (.bl true) h'
theorem cut13 (a b c d : PV) : cutL [a, b, c, d] (some 1) (some 3) = [b, c] := rfl
theorem mt_is_work : Meets [sp_is_among] 2 1 ir_is_work sp_is_work := by
  rintro args h F E ⟨⟨a, b, c, d⟩, rfl, ⟨⟨h1, h2⟩, ⟨h3, h4⟩, ⟨h5, h6⟩, h7, h8⟩, kf⟩
  refine ⟨rfl, ?_⟩
  unfold ir_is_work rowV
  show wSs _ _ [some _, none] h _
  refine wSs_step ?_; simp_arith [show ixN 4 0 = some 0 from rfl, show ixN 4 3 = some 3 from rfl]
  refine among_int h1 h2 ?_
  simp_arith []
  refine wSs_step ?_; simp_arith [cut13]
  refine among_int h3 h4 ?_
  refine among_int h5 h6 ?_
  simp_arith [boolsOf, Option.map_some, List.all_cons, List.all_nil, id, new_get]
  exact among_int h7 h8 (kf _ .app)
def sp_need_rows : Z.Spec := fun args h F _ => ∃ (r : Nat) (rows : Rows), args = [.ref r] ∧ h[r]? = some (.lst (rows.map rowV)) ∧ 1 ≤ rows.length ∧ rows.length ≤ 30 ∧ (∀ p ∈ rows, GoodRow p) ∧ ∀ h', Ext h h' → F .non h'
theorem mt_need_rows : Meets [sp_is_work] 2 1 ir_need_rows sp_need_rows := by
  rintro args h F E ⟨r, rows, rfl, e, l1, l2, hg, kf⟩
  refine ⟨rfl, ?_⟩
  unfold ir_need_rows
  have l1' : (1 : Int) ≤ rows.length := by omega
  have l2' : (rows.length : Int) ≤ 30 := by omega
  show wSs _ _ [some _, none] h _
  refine wSs_step ?_; simp_arith [e, l1', l2']
  refine wComp_map (fun _ => .bl true) _ (fun h' x => ⟨x _ _ e, trivial⟩) (fun x hx h' ex => ⟨_, rfl, fun G hG => ?_⟩) (by rw [List.length_map]; show rows.length ≤ 16777216; omega) fun h' ex => ?_
  · simp_arith []
    obtain ⟨p, hp, rfl⟩ := List.mem_map.mp hx
    exact ⟨p, rfl, hg p hp, fun h2 e2 => hG h2 (ex.trans e2)⟩
  · simp_arith [new_get, boolsOf_const, all_const]
    exact kf _ (ex.trans .app)
theorem ixN_last {n : Nat} (h : 0 < n) : ixN n (-1) = some (n - 1) := by
  show (if (0 : Int) ≤ -1 then (if (-1 : Int) < n then some (-1 : Int).toNat else none) else if -(n : Int) ≤ -1 then some (-1 + (n : Int)).toNat else none) = some (n - 1)
  rw [if_neg (by decide), if_pos (by omega)]
  congr 1
  omega
/-! the law's own rows -/
def sp__law_mixed : Z.Spec := Com.sp__law_mixed
theorem mt__law_mixed : Meets [] 3 2 ir__law_mixed sp__law_mixed := Com.mt__law_mixed
def sp__law_draw : Z.Spec := Com.sp__law_draw
theorem mt__law_draw : Meets [] 5 2 ir__law_draw sp__law_draw := Com.mt__law_draw
def sp__law_next : Z.Spec := Com.sp__law_next
theorem mt__law_next : Meets [sp__law_mixed] 4 2 ir__law_next sp__law_next := Com.mt__law_next
def sp__law_work : Z.Spec := fun args h F _ => ∃ (d : Nat), args = [.ref d] ∧ IsDraw h d (10 ^ 9 + 30) ∧ ∀ r h', ExtB d h h' → GoodRow r → IsDraw h' d (10 ^ 9 + 43) → F (rowV r) h'
theorem next_step {d : Nat} {h : Hep} {B m : Int} {G : KQ} {E : KX} (dr : IsDraw h d B) (hB : B ≤ 10 ^ 9 + 1000) (m1 : 1 ≤ m) (m2 : m < 2 ^ 64) (k : ∀ v h1, 0 ≤ v → v < m → IsDraw h1 d (B + 1) → ExtB d h h1 → G (.int v) h1) : sp__law_next [.ref d, .int m] h G E :=
  ⟨d, _, _, rfl, dr, by omega, m1, m2, fun v h1 v1 v2 dr1 l1 e1 => k v h1 v1 v2 dr1 (nextB l1 e1)⟩
theorem mt__law_work : Meets [sp__law_next] 4 1 ir__law_work sp__law_work := by
  rintro args h F E ⟨d, rfl, dr, kf⟩
  refine ⟨rfl, ?_⟩
  unfold ir__law_work
  have lb := dr.lt
  have dv5 : divOk 5 := divOk_of (by decide) (by decide)
  have dv7 : divOk 7 := divOk_of (by decide) (by decide)
  show wSs _ _ [some _, none, none, none] h _
  refine wSs_step ?_; simp_arith []
  refine next_step dr (by decide) (by decide) (by decide) fun v1 h1 a1 b1 D1 X1 => ?_
  try simp_arith []
  refine next_step D1 (by decide) (by decide) (by decide) fun v2 h2 a2 b2 D2 X2 => ?_
  try simp_arith []
  refine next_step D2.app (by decide) (by decide) (by decide) fun v3 h3 a3 b3 D3 X3 => ?_
  have l2 : d < h2.length := D2.lt
  have e3 : h3[h2.length]? = some (.lst [.int v1, .int v2]) := X3.2 _ _ (by omega) new_get
  obtain ⟨j, w, j1, j2, w1, w2⟩ : ∃ j w, ixN 2 (v3 / 7) = some j ∧ [PV.int v1, PV.int v2][j]? = some (.int w) ∧ 0 ≤ w ∧ w < 1000 := by
    have : v3 / 7 = 0 ∨ v3 / 7 = 1 := by omega
    rcases this with q | q <;> rw [q]
    · exact ⟨0, v1, rfl, rfl, a1, by omega⟩
    · exact ⟨1, v2, rfl, rfl, a2, by omega⟩
  simp_arith [dv7, e3, j1, j2]
  have X03 : ExtB d h h3 := ((X1.trans X2).trans Ext.app.b).trans X3
  refine wSs_step ?_; simp_arith []
  refine next_step D3 (by decide) (by decide) (by decide) fun v4 h4 a4 b4 D4 X4 => ?_
  try simp_arith []
  refine next_step D4 (by decide) (by decide) (by decide) fun v5 h5 a5 b5 D5 X5 => ?_
  try simp_arith []
  refine next_step D5.app (by decide) (by decide) (by decide) fun v6 h6 a6 b6 D6 X6 => ?_
  have l5 : d < h5.length := D5.lt
  have e6 : h6[h5.length]? = some (.lst [.int 0, .int v4, .int v5]) := X6.2 _ _ (by omega) new_get
  obtain ⟨j', w', j1', j2', w1', w2'⟩ : ∃ j w, ixN 3 (v6 / 5) = some j ∧ [PV.int 0, PV.int v4, PV.int v5][j]? = some (.int w) ∧ 0 ≤ w ∧ w ≤ 1000000 := by
    have : v6 / 5 = 0 ∨ v6 / 5 = 1 ∨ v6 / 5 = 2 := by omega
    rcases this with q | q | q <;> rw [q]
    · exact ⟨0, 0, rfl, rfl, by decide, by decide⟩
    · exact ⟨1, v4, rfl, rfl, a4, by omega⟩
    · exact ⟨2, v5, rfl, rfl, a5, by omega⟩
  simp_arith [dv5, e6, j1', j2']
  have X06 : ExtB d h h6 := ((X03.trans (X4.trans X5)).trans Ext.app.b).trans X6
  refine wSs_step ?_; simp_arith []
  refine next_step D6 (by decide) (by decide) (by decide) fun v7 h7 a7 b7 D7 X7 => ?_
  try simp_arith []
  refine next_step D7 (by decide) (by decide) (by decide) fun v8 h8 a8 b8 D8 X8 => ?_
  try simp_arith []
  refine next_step D8 (by decide) (by decide) (by decide) fun v9 h9 a9 b9 D9 X9 => ?_
  try simp_arith []
  refine next_step D9.app (by decide) (by decide) (by decide) fun v10 h10 a10 b10 D10 X10 => ?_
  have l9 : d < h9.length := D9.lt
  have e10 : h10[h9.length]? = some (.lst [.int v7, .int v8, .int v9]) := X10.2 _ _ (by omega) new_get
  obtain ⟨i', u', i1', i2', u1', u2'⟩ : ∃ j w, ixN 3 (v10 / 5) = some j ∧ [PV.int v7, PV.int v8, PV.int v9][j]? = some (.int w) ∧ 0 ≤ w ∧ w ≤ 1000000 := by
    have : v10 / 5 = 0 ∨ v10 / 5 = 1 ∨ v10 / 5 = 2 := by omega
    rcases this with q | q | q <;> rw [q]
    · exact ⟨0, v7, rfl, rfl, a7, by omega⟩
    · exact ⟨1, v8, rfl, rfl, a8, by omega⟩
    · exact ⟨2, v9, rfl, rfl, a9, by omega⟩
  simp_arith [dv5, e10, i1', i2']
  have X010 : ExtB d h h10 := ((X06.trans (X7.trans (X8.trans X9))).trans Ext.app.b).trans X10
  refine wSs_step ?_; simp_arith []
  refine next_step D10 (by decide) (by decide) (by decide) fun v11 h11 a11 b11 D11 X11 => ?_
  try simp_arith []
  refine next_step D11 (by decide) (by decide) (by decide) fun v12 h12 a12 b12 D12 X12 => ?_
  try simp_arith []
  refine next_step D12.app (by decide) (by decide) (by decide) fun v13 h13 a13 b13 D13 X13 => ?_
  have l12 : d < h12.length := D12.lt
  have e13 : h13[h12.length]? = some (.lst [.int 0, .int 1, .int v11, .int v12]) := X13.2 _ _ (by omega) new_get
  obtain ⟨g', t', g1', g2', t1', t2'⟩ : ∃ j w, ixN 4 v13 = some j ∧ [PV.int 0, PV.int 1, PV.int v11, PV.int v12][j]? = some (.int w) ∧ 0 ≤ w ∧ w ≤ 1000 := by
    have : v13 = 0 ∨ v13 = 1 ∨ v13 = 2 ∨ v13 = 3 := by omega
    rcases this with q | q | q | q <;> rw [q]
    · exact ⟨0, 0, rfl, rfl, by decide, by decide⟩
    · exact ⟨1, 1, rfl, rfl, by decide, by decide⟩
    · exact ⟨2, v11, rfl, rfl, a11, by omega⟩
    · exact ⟨3, v12, rfl, rfl, a12, by omega⟩
  simp_arith [e13, g1', g2']
  exact kf (1 + w, w', u', t') h13 (((X010.trans (X11.trans X12)).trans Ext.app.b).trans X13) ⟨⟨by show 1 ≤ 1 + w; omega, by show 1 + w ≤ 1000; omega⟩, ⟨w1', w2'⟩, ⟨u1', u2'⟩, t1', t2'⟩ (D13.le (by decide))
def sp__law_rows : Z.Spec := fun args h F _ => ∃ (ns : List Int) (k most : Int), args = [.ils (ns.map PV.int), .int k, .int most] ∧ ns.length ≤ 63 ∧ 0 ≤ k ∧ k ≤ 1000 ∧ 1 ≤ most ∧ most ≤ 30 ∧
  ∀ (r : Nat) (h' : Hep) (rows : Rows), Ext h h' → h.length ≤ r → h'[r]? = some (.lst (rows.map rowV)) → 1 ≤ rows.length → (rows.length : Int) ≤ most → (∀ p ∈ rows, GoodRow p) → F (.ref r) h'
theorem mt__law_rows : Meets [sp__law_draw, sp__law_next, sp__law_work] 6 3 ir__law_rows sp__law_rows := by
  rintro args h F E ⟨ns, k, most, rfl, hl, k0, k1, m1, m2, kf⟩
  refine ⟨rfl, ?_⟩
  unfold ir__law_rows
  show wSs _ _ [some _, some _, some _, none, none, none] h _
  refine wSs_step ?_; simp_arith []
  refine ⟨ns, k, rfl, hl, k0, by omega, fun d h1 x1 f1 D1 => ?_⟩
  simp_arith []
  refine wSs_step ?_; simp_arith []
  refine next_step D1 (by decide) m1 (by omega) fun v h2 v1 v2 D2 X2 => ?_
  simp_arith []
  refine ⟨by omega, by omega, ?_⟩
  have x02 : Ext h h2 := ExtB.ext x1 X2 f1
  refine wComp_ind (fun rest acc h' => (∀ x ∈ rest, ∃ j : Int, x = .int j ∧ 0 ≤ j ∧ j < 30) ∧ ∃ rows : Rows, acc = rows.map rowV ∧ rest.length + rows.length = (1 + v).toNat ∧ Ext h2 h' ∧ ∀ p ∈ rows, GoodRow p) _ _ _ ⟨fun x hx => ?_, [], rfl, by simp [rngL], .rfl', by simp⟩ ?_ ?_
  · unfold rngL at hx
    obtain ⟨i, hi, rfl⟩ := List.mem_map.mp hx
    have := List.mem_range.mp hi
    exact ⟨0 + i, rfl, by omega, by omega⟩
  · rintro x rest acc h3 ⟨hj, rows, rfl, hlen, x3, good⟩
    obtain ⟨j, rfl, j0, j1⟩ := hj x List.mem_cons_self
    refine ⟨trivial, _, rfl, fun K hK => ?_⟩
    rw [List.length_cons] at hlen
    simp_arith []
    refine ⟨ns, k + 1 + j, rfl, hl, by omega, by omega, fun d4 h4 x4 f4 D4 => ?_⟩
    simp_arith []
    refine ⟨d4, rfl, D4.le (by decide), fun r h5 X5 gr _ => ⟨by omega, ?_⟩⟩
    refine hK _ _ ⟨fun x hx => hj x (List.mem_cons_of_mem _ hx), rows ++ [r], by rw [List.map_append]; rfl, by rw [List.length_append, List.length_singleton]; omega, x3.trans (ExtB.ext x4 X5 f4), fun p hp => ?_⟩
    rcases List.mem_append.mp hp with hp | hp
    · exact good p hp
    · rw [List.mem_singleton.mp hp]; exact gr
  · rintro acc h3 ⟨_, rows, rfl, hlen, x3, good⟩
    refine ⟨trivial, ?_⟩
    have hl2 : rows.length = (1 + v).toNat := by simpa using hlen
    have D3 := (IsDraw_ext D2 x3).app (j := [Ob.lst (rows.map rowV)])
    refine wSs_step ?_; simp_arith []
    refine next_step D3 (by decide) (by decide) (by decide) fun w h4 w1 w2 D4 X4 => ?_
    have l2 := D2.lt
    have l3 := x3.len
    have e4 : h4[h3.length]? = some (.lst (rows.map rowV)) := X4.2 _ _ (by omega) new_get
    have l0 := x02.len
    have x04 : Ext h h4 := ExtB.ext (x02.trans (x3.trans .app)) X4 f1
    have n0 : 0 < rows.length := by omega
    have i0 : ixN rows.length 0 = some 0 := ixN_int (Int.le_refl 0) (by omega)
    have g0 : rows[0]? = some rows[0] := List.getElem?_eq_getElem n0
    by_cases c : w = 1
    · subst c
      simp_arith []
      refine wSs_step ?_; simp_arith [e4, i0, g0, ixN_last n0]
      refine wSs_step ?_; simp_arith []
      have em : (rows.map rowV).set (rows.length - 1) (rowV rows[0]) = (rows.set (rows.length - 1) rows[0]).map rowV := by rw [List.map_set]
      refine kf _ _ (rows.set (rows.length - 1) rows[0]) (x04.set' (by omega)) (by omega) (by rw [set_get e4, em]) (by rw [List.length_set]; omega) (by rw [List.length_set]; omega) fun p hp => ?_
      rcases List.mem_or_eq_of_mem_set hp with hp | hp
      · exact good p hp
      · rw [hp]; exact good _ (List.getElem_mem n0)
    · have ne : (w == 1) = false := by simpa using c
      simp_arith [ne]
      refine wSs_step ?_; simp_arith []
      exact kf _ _ rows x04 (by omega) e4 (by omega) (by omega) good
end Law

/-! orders, lateness: the plain law -/
namespace Law
open PySem Z Com
def nums (n : Nat) : List Int := (List.range n).map fun (i : Nat) => (i : Int)
theorem nums_pv (n : Nat) : ((List.range n).map fun (i : Nat) => PV.int i) = (nums n).map PV.int := by unfold nums; rw [List.map_map]; rfl
theorem nums_rise (n : Nat) : (nums n).Pairwise (· < ·) := by
  unfold nums
  refine List.Pairwise.map _ (fun a b h => ?_) List.pairwise_lt_range
  omega
theorem nums_mem {n : Nat} {i : Int} : i ∈ nums n ↔ 0 ≤ i ∧ i < (n : Int) := by
  unfold nums
  rw [List.mem_map]
  constructor
  · rintro ⟨k, hk, rfl⟩
    have := List.mem_range.mp hk
    omega
  · intro ⟨h0, h1⟩
    exact ⟨i.toNat, List.mem_range.mpr (by omega), by omega⟩
theorem nums_len (n : Nat) : (nums n).length = n := by simp [nums]
theorem nums_nd (n : Nat) : (nums n).Nodup := (nums_rise n).imp fun h => by omega
theorem nums_succ (n : Nat) : nums (n + 1) = nums n ++ [(n : Int)] := by unfold nums; rw [List.range_succ, List.map_append]; rfl
/-- all numbers, in some order -/
abbrev Ord (n : Nat) (os : List Int) : Prop := os.Perm (nums n)
theorem Ord.len {n : Nat} {os : List Int} (o : Ord n os) : os.length = n := by rw [o.length_eq, nums_len]
theorem Ord.nd {n : Nat} {os : List Int} (o : Ord n os) : os.Nodup := o.nodup_iff.mpr (nums_nd n)
theorem Ord.mem {n : Nat} {os : List Int} (o : Ord n os) {i : Int} : i ∈ os ↔ 0 ≤ i ∧ i < (n : Int) := o.mem_iff.trans nums_mem
def GoodSet (n : Nat) (S : List Int) : Prop := S ≠ [] ∧ (∀ i ∈ S, 0 ≤ i ∧ i < (n : Int)) ∧ S.Pairwise (· < ·)
theorem GoodSet.nd {n : Nat} {S : List Int} (g : GoodSet n S) : S.Nodup := g.2.2.imp fun h => by omega
theorem maxL_most {l : List Int} {x : Int} (h : x ∈ l) (h2 : ∀ y ∈ l, y ≤ x) : maxL l = x := by
  obtain ⟨m1, m2⟩ := maxL_mem l (by intro z; rw [z] at h; cases h)
  have := m2 x h
  have := h2 _ m1
  omega
theorem le_maxL {l : List Int} {x : Int} (h : x ∈ l) : x ≤ maxL l := (maxL_mem l (by intro z; rw [z] at h; cases h)).2 x h
theorem minL_least {l : List Int} {x : Int} (h : x ∈ l) (h2 : ∀ y ∈ l, x ≤ y) : minL l = x := by
  obtain ⟨m1, m2⟩ := minL_mem l (by intro z; rw [z] at h; cases h)
  have := m2 x h
  have := h2 _ m1
  omega
theorem sum_perm {l m : List Int} (f : Int → Int) (p : l.Perm m) : (l.map f).sum = (m.map f).sum := by
  induction p with
  | nil => rfl
  | cons x _ ih => simp only [List.map_cons, List.sum_cons, ih]
  | swap x y l => simp only [List.map_cons, List.sum_cons]; omega
  | trans _ _ a b => exact a.trans b
theorem sum_nonneg {f : Int → Int} : ∀ {L : List Int}, (∀ i ∈ L, 0 ≤ f i) → 0 ≤ (L.map f).sum
  | [], _ => Int.le_refl _
  | x :: L, h => by
    have := sum_nonneg (L := L) fun i hi => h i (List.mem_cons_of_mem _ hi)
    have := h x List.mem_cons_self
    simp only [List.map_cons, List.sum_cons]
    omega
theorem sum_sub {f : Int → Int} : ∀ {S L : List Int}, S.Nodup → (∀ i ∈ S, i ∈ L) → (∀ i ∈ L, 0 ≤ f i) → (S.map f).sum ≤ (L.map f).sum
  | [], L, _, _, h => sum_nonneg h
  | x :: S, L, nd, sb, h => by
    have q := List.nodup_cons.mp nd
    have hx := sb x List.mem_cons_self
    have p := List.perm_cons_erase hx
    have ih := sum_sub (S := S) (L := L.erase x) q.2 (fun i hi => (List.mem_erase_of_ne (fun z => q.1 (by subst z; exact hi))).mpr (sb i (List.mem_cons_of_mem _ hi))) fun i hi => h i (List.mem_of_mem_erase hi)
    rw [sum_perm f p]
    simp only [List.map_cons, List.sum_cons]
    omega
theorem last_split {p : Int → Prop} [DecidablePred p] : ∀ {l : List Int}, (∃ x ∈ l, p x) → ∃ l1 x l2, l = l1 ++ x :: l2 ∧ p x ∧ ∀ y ∈ l2, ¬ p y
  | [], h => by obtain ⟨x, h, _⟩ := h; cases h
  | x :: l, h => by
    by_cases c : ∃ y ∈ l, p y
    · obtain ⟨l1, z, l2, rfl, pz, q⟩ := last_split c
      exact ⟨x :: l1, z, l2, rfl, pz, q⟩
    · obtain ⟨y, hy, py⟩ := h
      rcases List.mem_cons.mp hy with rfl | hy
      · exact ⟨[], y, l, rfl, py, fun z hz pz => c ⟨z, hz, pz⟩⟩
      · exact absurd ⟨y, hy, py⟩ c
/-! ### lateness -/
def lates (rows : Rows) : Int → List Int → List Int
  | _, [] => []
  | t, k :: r => (t + lenR rows k - dueR rows k) :: lates rows (t + lenR rows k) r
def late (rows : Rows) (os : List Int) : Int := maxL (lates rows 0 os)
theorem lates_snoc (rows : Rows) (k : Int) : ∀ (P : List Int) (t : Int), lates rows t (P ++ [k]) = lates rows t P ++ [t + (P.map (lenR rows)).sum + lenR rows k - dueR rows k]
  | [], t => by simp [lates]
  | x :: P, t => by
    rw [List.cons_append, lates, lates, lates_snoc rows k P, List.cons_append]
    simp only [List.map_cons, List.sum_cons, Int.add_assoc]
theorem lates_at (rows : Rows) (k : Int) (Q : List Int) : ∀ (P : List Int) (t : Int), t + ((P ++ [k]).map (lenR rows)).sum - dueR rows k ∈ lates rows t (P ++ k :: Q)
  | [], t => by
    rw [List.nil_append, List.nil_append, lates]
    simp
  | x :: P, t => by
    rw [List.cons_append, List.cons_append, lates]
    have := lates_at rows k Q P (t + lenR rows x)
    simp only [List.map_cons, List.sum_cons]
    rw [← Int.add_assoc]
    exact List.mem_cons_of_mem _ this
def shown (rows : Rows) (S : List Int) : Int := (S.map (lenR rows)).sum - maxL (S.map (dueR rows))
theorem late_ge {rows : Rows} {os S : List Int} (hp : ∀ i ∈ os, 0 ≤ lenR rows i) (ne : S ≠ []) (nd : S.Nodup) (sb : ∀ i ∈ S, i ∈ os) : shown rows S ≤ late rows os := by
  obtain ⟨s, hs⟩ := List.exists_mem_of_ne_nil S ne
  obtain ⟨P, k, Q, rfl, kS, hQ⟩ := last_split (l := os) (p := fun i => i ∈ S) ⟨s, sb s hs, hs⟩
  have h1 := le_maxL (lates_at rows k Q P 0)
  have h2 := le_maxL (List.mem_map_of_mem (f := dueR rows) kS)
  have h3 := sum_sub (f := lenR rows) (S := S) (L := P ++ [k]) nd (fun i hi => by
    have := sb i hi
    rcases List.mem_append.mp this with h | h
    · exact List.mem_append_left _ h
    · rcases List.mem_cons.mp h with h | h
      · rw [h]; exact List.mem_append_right _ (List.mem_singleton_self _)
      · exact absurd hi (hQ i h)) fun i hi => hp i (by
        rcases List.mem_append.mp hi with h | h
        · exact List.mem_append_left _ h
        · rw [List.mem_singleton.mp h]; exact List.mem_append_right _ List.mem_cons_self)
  unfold shown late
  omega
theorem len_pos {rows : Rows} (g : ∀ p ∈ rows, GoodRow p) {i : Int} (h0 : 0 ≤ i) (h1 : i < rows.length) : 1 ≤ lenR rows i := (atR_good h0 h1 g).1.1
/-! ### the order by BY -/
def dueL : Nat → Rows → List (Int × Int)
  | _, [] => []
  | i, r :: l => (r.2.2.1, (i : Int)) :: dueL (i + 1) l
theorem dueL_is : ∀ (l : Rows) (i : Nat), dueL i l = (List.range l.length).map fun (j : Nat) => (dueR l (j : Int), ((i + j : Nat) : Int))
  | [], i => rfl
  | r :: l, i => by
    rw [dueL, dueL_is l (i + 1), List.length_cons, List.range_succ_eq_map, List.map_cons, List.map_map]
    congr 1
    refine List.map_congr_left fun j _ => ?_
    show (dueR l (j : Int), ((i + 1 + j : Nat) : Int)) = (dueR (r :: l) ((j + 1 : Nat) : Int), ((i + (j + 1) : Nat) : Int))
    rw [show i + 1 + j = i + (j + 1) by omega]
    rfl
def dueO (rows : Rows) : List Int := (srtP (dueL 0 rows)).map (·.2)
theorem dueO_ord (rows : Rows) : Ord rows.length (dueO rows) := by
  unfold dueO
  refine ((srtP_perm _).map _).trans ?_
  rw [dueL_is, List.map_map]
  have : (List.range rows.length).map ((fun (p : Int × Int) => p.2) ∘ fun (j : Nat) => (dueR rows (j : Int), ((0 + j : Nat) : Int))) = nums rows.length := by
    unfold nums
    refine List.map_congr_left fun j _ => ?_
    show ((0 + j : Nat) : Int) = (j : Int)
    rw [Nat.zero_add]
  rw [this]
theorem dueO_up (rows : Rows) : (dueO rows).Pairwise fun i j => dueR rows i ≤ dueR rows j := by
  unfold dueO
  rw [List.pairwise_map]
  refine List.Pairwise.imp_of_mem (fun {p q} hp hq h => ?_) (srtP_sorted (dueL 0 rows))
  have hp := (srtP_perm _).mem_iff.mp hp
  have hq := (srtP_perm _).mem_iff.mp hq
  rw [dueL_is] at hp hq
  obtain ⟨i, _, rfl⟩ := List.mem_map.mp hp
  obtain ⟨j, _, rfl⟩ := List.mem_map.mp hq
  rw [Nat.zero_add, Nat.zero_add] at h ⊢
  rcases h with h | h
  · have : dueR rows i < dueR rows j := h
    show dueR rows i ≤ dueR rows j
    omega
  · exact Int.le_of_eq h.1
def valAt (rows : Rows) (pre : List Int) (j : Nat) : Int := ((pre.take (j + 1)).map (lenR rows)).sum - dueR rows (pre.getD j 0)
theorem valAt_mem {rows : Rows} {pre : List Int} {j : Nat} (h : j < pre.length) : valAt rows pre j ∈ lates rows 0 pre := by
  have := lates_at rows pre[j] (pre.drop (j + 1)) (pre.take j) 0
  rw [← List.drop_eq_getElem_cons h, List.take_append_drop, Int.zero_add] at this
  have tk : pre.take (j + 1) = pre.take j ++ [pre[j]] := by rw [List.take_add_one, List.getElem?_eq_getElem h]; rfl
  have gd : pre.getD j 0 = pre[j] := by rw [List.getD_eq_getElem?_getD, List.getElem?_eq_getElem h]; rfl
  unfold valAt
  rw [tk, gd]
  exact this
theorem valAt_app {rows : Rows} {pre : List Int} {k : Int} {j : Nat} (h : j < pre.length) : valAt rows (pre ++ [k]) j = valAt rows pre j := by
  unfold valAt
  rw [List.take_append_of_le_length (by omega), List.getD_eq_getElem?_getD, List.getD_eq_getElem?_getD, List.getElem?_append_left h]
/-- the first place of the latest -/
def First (rows : Rows) (S : List Int) : Prop := ∃ p, p < (dueO rows).length ∧ S = srtI ((dueO rows).take (p + 1)) ∧ valAt rows (dueO rows) p = late rows (dueO rows) ∧ ∀ j, j < p → valAt rows (dueO rows) j < late rows (dueO rows)
theorem First.one {rows : Rows} {S T : List Int} (a : First rows S) (b : First rows T) : S = T := by
  obtain ⟨p, h1, rfl, h2, h3⟩ := a
  obtain ⟨q, g1, rfl, g2, g3⟩ := b
  have : p = q := by
    rcases Nat.lt_trichotomy p q with c | c | c
    · have := g3 p c; omega
    · exact c
    · have := h3 q c; omega
  rw [this]
/-- the running best -/
structure Lt (rows : Rows) (pre : List Int) (t m : Int) (p : Nat) : Prop where
  e1 : t = (pre.map (lenR rows)).sum
  pl : p < pre.length
  em : ∃ hp : p < pre.length, m = ((pre.take (p + 1)).map (lenR rows)).sum - dueR rows pre[p]
  top : ∀ x ∈ lates rows 0 pre, x ≤ m
  fst : ∀ j, j < p → valAt rows pre j < m
theorem Lt.start (rows : Rows) (k : Int) : Lt rows [k] (0 + lenR rows k) (0 + lenR rows k - dueR rows k) 0 :=
  ⟨by simp, by simp, ⟨by simp, by simp⟩, fun x hx => by simp [lates] at hx; omega, fun j hj => by omega⟩
theorem Lt.go {rows : Rows} {pre : List Int} {t m : Int} {p : Nat} (l : Lt rows pre t m p) (k : Int) :
    (m < t + lenR rows k - dueR rows k → Lt rows (pre ++ [k]) (t + lenR rows k) (t + lenR rows k - dueR rows k) pre.length) ∧
    (¬ m < t + lenR rows k - dueR rows k → Lt rows (pre ++ [k]) (t + lenR rows k) m p) := by
  have e := lates_snoc rows k pre 0
  have ht := l.e1
  refine ⟨fun c => ⟨by rw [ht]; simp, by simp, ⟨by simp, ?_⟩, fun x hx => ?_, fun j hj => by rw [valAt_app hj]; have := l.top _ (valAt_mem (rows := rows) hj); omega⟩, fun c => ⟨by rw [ht]; simp, by have := l.pl; simp; omega, ?_, fun x hx => ?_, fun j hj => by rw [valAt_app (by have := l.pl; omega)]; exact l.fst j hj⟩⟩
  · rw [List.take_of_length_le (by simp)]
    simp [ht]
  · rw [e] at hx
    rcases List.mem_append.mp hx with h | h
    · have := l.top x h; omega
    · rw [List.mem_singleton.mp h, ht]; omega
  · obtain ⟨hp, h⟩ := l.em
    refine ⟨by simp; omega, ?_⟩
    rw [List.take_append_of_le_length (by omega), List.getElem_append_left hp]
    exact h
  · rw [e] at hx
    rcases List.mem_append.mp hx with h | h
    · exact l.top x h
    · rw [List.mem_singleton.mp h, ← ht, Int.zero_add] at *
      have := l.e1
      omega
theorem srtI_mem {L : List Int} {i : Int} : i ∈ srtI L ↔ i ∈ L := (srtI_perm L).mem_iff
theorem srtI_lt {L : List Int} (nd : L.Nodup) : (srtI L).Pairwise (· < ·) := by
  have n2 := (srtI_perm L).nodup_iff.mpr nd
  have := (srtI_sorted L).and n2
  exact this.imp fun ⟨h1, h2⟩ => by omega
theorem Lt.fin {rows : Rows} {t m : Int} {p : Nat} (l : Lt rows (dueO rows) t m p) : First rows (srtI ((dueO rows).take (p + 1))) ∧ m = late rows (dueO rows) ∧ GoodSet rows.length (srtI ((dueO rows).take (p + 1))) ∧ shown rows (srtI ((dueO rows).take (p + 1))) = m := by
  have o := dueO_ord rows
  obtain ⟨hp, hm⟩ := l.em
  have ht : (dueO rows).take (p + 1) = (dueO rows).take p ++ [(dueO rows)[p]] := by rw [List.take_add_one, List.getElem?_eq_getElem hp]; rfl
  have em : m = late rows (dueO rows) := by
    refine (maxL_most ?_ l.top).symm
    have := lates_at rows (dueO rows)[p] ((dueO rows).drop (p + 1)) ((dueO rows).take p) 0
    rw [← List.drop_eq_getElem_cons hp, List.take_append_drop, ← ht, Int.zero_add] at this
    rw [hm]
    exact this
  have gd : (dueO rows).getD p 0 = (dueO rows)[p] := by rw [List.getD_eq_getElem?_getD, List.getElem?_eq_getElem hp]; rfl
  refine ⟨⟨p, hp, rfl, by unfold valAt; rw [gd, ← hm, em], by rw [← em]; exact l.fst⟩, em, ⟨?_, ?_, srtI_lt ((List.take_sublist _ _).nodup o.nd)⟩, ?_⟩
  · intro z
    have := congrArg List.length z
    rw [(srtI_perm _).length_eq, List.length_take, List.length_nil] at this
    omega
  · exact fun i hi => o.mem.mp (List.mem_of_mem_take (srtI_mem.mp hi))
  · unfold shown
    rw [sum_perm (lenR rows) (srtI_perm _), hm]
    congr 1
    refine maxL_most (List.mem_map_of_mem (srtI_mem.mpr (by rw [ht]; exact List.mem_append_right _ (List.mem_singleton_self _)))) fun y hy => ?_
    obtain ⟨i, hi, rfl⟩ := List.mem_map.mp hy
    have hi := srtI_mem.mp hi
    rw [ht] at hi
    rcases List.mem_append.mp hi with hi | hi
    · have := (dueO_up rows).sublist (List.take_sublist (p + 1) _)
      rw [ht] at this
      exact (List.pairwise_append.mp this).2.2 i hi _ List.mem_cons_self
    · rw [List.mem_singleton.mp hi]; exact Int.le_refl _
theorem late_least {rows : Rows} (g : ∀ p ∈ rows, GoodRow p) {os S : List Int} (o : Ord rows.length os) (gs : GoodSet rows.length S) : shown rows S ≤ late rows os :=
  late_ge (fun i hi => by have := o.mem.mp hi; have := len_pos g this.1 this.2; omega) gs.1 gs.nd fun i hi => o.mem.mpr (gs.2.1 i hi)
theorem lt_all {rows : Rows} {o : List Int} : ∀ n, n + 1 ≤ o.length → ∃ t m p, Lt rows (o.take (n + 1)) t m p
  | 0, h => by
    have e : o.take 1 = [o[0]] := by rw [List.take_add_one, List.getElem?_eq_getElem (by omega)]; rfl
    rw [e]
    exact ⟨_, _, _, Lt.start rows _⟩
  | n + 1, h => by
    obtain ⟨t, m, p, l⟩ := lt_all (rows := rows) n (Nat.le_of_succ_le h)
    have e : o.take (n + 1 + 1) = o.take (n + 1) ++ [o[n + 1]] := by rw [List.take_add_one, List.getElem?_eq_getElem (by omega)]; rfl
    rw [e]
    by_cases c : m < t + lenR rows o[n + 1] - dueR rows o[n + 1]
    · exact ⟨_, _, _, (l.go _).1 c⟩
    · exact ⟨_, _, _, (l.go _).2 c⟩
theorem due_shown {rows : Rows} (l1 : 1 ≤ rows.length) : ∃ S, GoodSet rows.length S ∧ shown rows S = late rows (dueO rows) := by
  have ol := (dueO_ord rows).len
  obtain ⟨t, m, p, l⟩ := lt_all (rows := rows) (o := dueO rows) (rows.length - 1) (by omega)
  rw [List.take_of_length_le (by omega)] at l
  obtain ⟨_, e, g, s⟩ := l.fin
  exact ⟨_, g, s.trans e⟩
end Law

namespace Law
open PySem Z Com
theorem mem_enumL {x : PV} : ∀ {l : List PV} {i : Nat}, x ∈ enumL i l → ∃ (k : Nat) (hk : k < l.length), x = .tup [.int ((i + k : Nat) : Int), l[k]]
  | y :: l, i, h => by
    rcases List.mem_cons.mp h with h | h
    · exact ⟨0, by simp, h⟩
    · obtain ⟨k, hk, e⟩ := mem_enumL (l := l) h
      exact ⟨k + 1, by simp; exact hk, by rw [e, show i + 1 + k = i + (k + 1) by omega]; rfl⟩
theorem cutL_take {α : Type} (xs : List α) (i : Int) (h : 0 ≤ i) (h2 : i ≤ xs.length) : cutL xs none (some i) = xs.take i.toNat := by
  unfold cutL
  have e : sIx xs.length xs.length (some i) = i.toNat := by
    rw [show i = ((i.toNat : Nat) : Int) by omega]
    rw [show sIx xs.length xs.length (some ((i.toNat : Nat) : Int)) = min i.toNat xs.length from HT.sIx_nat _ _ _, Nat.min_eq_left (by omega)]
    omega
  have e2 : sIx xs.length 0 none = 0 := rfl
  rw [e, e2, List.drop_zero, Nat.sub_zero]
def dF : PV → PV
  | .tup [i, .tup [_, _, d, _]] => .tup [d, i]
  | .tup [i, .itp [_, _, d, _]] => .tup [d, i]
  | _ => .non
def sndV : PV → PV
  | .tup [_, k] => k
  | _ => .non
theorem du_is : ∀ (l : Rows) (i : Nat), (enumL i (l.map rowV)).map dF = (dueL i l).map pairV
  | [], i => rfl
  | r :: l, i => by
    rw [List.map_cons, dueL, List.map_cons, ← du_is l (i + 1)]
    rfl
theorem snd_is (L : List (Int × Int)) : (L.map pairV).map sndV = (L.map (·.2)).map PV.int := by rw [List.map_map, List.map_map]; rfl
theorem dueL_len (rows : Rows) : (dueL 0 rows).length = rows.length := by rw [dueL_is]; simp
def sp_due_order : Z.Spec := fun args h F _ => ∃ (a : Nat) (rows : Rows), args = [.ref a] ∧ h[a]? = some (.lst (rows.map rowV)) ∧ rows.length ≤ 30 ∧ ∀ r h', Ext h h' → h.length ≤ r → h'[r]? = some (.lst ((dueO rows).map PV.int)) → F (.ref r) h'
theorem mt_due_order : Meets [] 4 1 ir_due_order sp_due_order := by
  rintro args h F E ⟨a, rows, rfl, ea, l2, kf⟩
  refine ⟨rfl, ?_⟩
  unfold ir_due_order
  have el : (enumL 0 (rows.map rowV)).length = rows.length := by rw [enumL_len, List.length_map]
  show wSs _ _ [some _, none, none, none] h _
  refine wSs_step ?_; simp_arith [ea]
  refine wComp_map dF _ (fun h' x => ⟨x _ _ ea, trivial⟩) (fun x hx h' ex => ?_) (by rw [el]; show rows.length ≤ 16777216; omega) fun h2 x2 => ?_
  · obtain ⟨k, hk, rfl⟩ := mem_enumL hx
    refine ⟨_, rfl, fun G hG => ?_⟩
    rw [List.getElem_map] at hG ⊢
    have q := hG _ ex
    rw [Nat.zero_add] at q
    simp_arith [rowV]
    exact q
  · rw [du_is]
    simp_arith [new_get]
    refine sorted_pairs ?_
    rw [sortZ_pairs]
    refine wComp_map (h := h2 ++ _ ++ _) sndV _ (fun h' x => ⟨x _ _ new_get, trivial⟩) (fun x hx h3 x3 => ?_) (by rw [List.length_map, (srtP_perm _).length_eq, dueL_len]; show _ ≤ 16777216; omega) fun h3 x3 => ?_
    · obtain ⟨p, hp, rfl⟩ := List.mem_map.mp hx
      refine ⟨_, rfl, fun G hG => ?_⟩
      simp_arith []
      exact hG _ x3
    · rw [snd_is]
      have x := ((x2.trans .app).trans .app).trans x3
      exact kf _ _ (x.trans .app) x.len new_get
def sp_least_late : Z.Spec := fun args h F _ => ∃ (a : Nat) (rows : Rows), args = [.ref a] ∧ h[a]? = some (.lst (rows.map rowV)) ∧ 1 ≤ rows.length ∧ rows.length ≤ 30 ∧ (∀ p ∈ rows, GoodRow p) ∧
  ∀ o s S h', Ext h h' → h.length ≤ o → h.length ≤ s → o ≠ s → h'[o]? = some (.lst ((dueO rows).map PV.int)) → h'[s]? = some (.lst (S.map PV.int)) → First rows S → GoodSet rows.length S → shown rows S = late rows (dueO rows) → F (.tup [.int (late rows (dueO rows)), .ref o, .ref s]) h'
theorem mt_least_late : Meets [sp_need_rows, sp_due_order] 7 1 ir_least_late sp_least_late := by
  rintro args h F E ⟨a, rows, rfl, ea, l1, l2, good, kf⟩
  refine ⟨rfl, ?_⟩
  unfold ir_least_late
  show wSs _ _ [some _, none, none, none, none, none, none] h _
  refine wSs_step ?_; simp_arith []
  refine ⟨a, rows, rfl, ea, l1, l2, good, fun h1 x1 => ?_⟩
  simp_arith []
  refine wSs_step ?_; simp_arith []
  refine ⟨a, rows, rfl, x1 _ _ ea, l2, fun b h2 x2 f2 e2 => ?_⟩
  simp_arith []
  refine wSs_step ?_; simp_arith []
  refine wSs_step ?_; simp_arith []
  have ea2 := x2 _ _ (x1 _ _ ea)
  have od := dueO_ord rows
  have ol := od.len
  refine wSs_step ?_; simp_arith [e2]
  refine wFor_ind (fun rest σ h' => Ext h2 h' ∧ ∃ (i : Nat) (t : Int) (y3 y4 y5 y6 : Option PV), i ≤ (dueO rows).length ∧ rest = enumL i (((dueO rows).map PV.int).drop i) ∧ σ = [some (.ref a), some (.ref b), some (.int t), y3, y4, y5, y6] ∧
    ((i = 0 ∧ y3 = some .non ∧ t = 0) ∨ ∃ m p s, y3 = some (.tup [.int m, .ref s]) ∧ Lt rows ((dueO rows).take i) t m p ∧ h'[s]? = some (.lst ((srtI ((dueO rows).take (p + 1))).map PV.int)) ∧ h2.length ≤ s)) _ _ _ ⟨.rfl', 0, 0, _, none, none, none, Nat.zero_le _, rfl, rfl, .inl ⟨rfl, rfl, rfl⟩⟩ ?_ ?_
  · rintro x rest σ h3 ⟨x3, i, t, y3, y4, y5, y6, hi, e, rfl, st⟩
    by_cases hlt : i < (dueO rows).length
    · rw [enumL_drop (by rw [List.length_map]; exact hlt), List.getElem_map] at e
      cases e
      have e3 := x3 _ _ e2
      refine ⟨⟨e3, trivial⟩, _, rfl, fun K hK => ?_⟩
      obtain ⟨b1, b2⟩ := od.mem.mp (List.getElem_mem hlt)
      have ea3 := x3 _ _ ea2
      have tk : (dueO rows).take (i + 1) = (dueO rows).take i ++ [(dueO rows)[i]] := by rw [List.take_add_one, List.getElem?_eq_getElem hlt]; rfl
      have ct : cutL ((dueO rows).map PV.int) none (some ((i : Int) + 1)) = ((dueO rows).take (i + 1)).map PV.int := by
        rw [cutL_take _ _ (by omega) (by rw [List.length_map]; omega), show ((i : Int) + 1).toNat = i + 1 by omega, List.map_take]
      have e4 : (h3 ++ [Ob.lst (((dueO rows).take (i + 1)).map PV.int)])[h3.length]? = some (.lst (((dueO rows).take (i + 1)).map PV.int)) := new_get
      have l3 := x3.len
      refine wSs_step ?_; simp_arith [ea3, ixN_int b1 b2, rows_get b1 b2, rowV]
      refine wSs_step ?_; simp_arith [ea3, ixN_int b1 b2, rows_get b1 b2, rowV]
      rcases st with ⟨rfl, rfl, rfl⟩ | ⟨m, p, s, rfl, lt, es, fs⟩
      · have ct0 : cutL ((dueO rows).map PV.int) none (some (0 + 1)) = ((dueO rows).take (0 + 1)).map PV.int := ct
        refine wSs_step ?_; simp_arith []
        refine wSs_step ?_; simp_arith [e3, ct0]
        simp_arith [new_get]
        refine sorted_ints ?_
        rw [sortZ_ints]
        refine hK _ _ ⟨x3.trans (Ext.app.trans .app), 1, _, _, _, _, _, hlt, rfl, rfl, .inr ⟨_, 0, _, rfl, ?_, new_get, by simp; omega⟩⟩
        rw [tk]
        exact Lt.start rows _
      · have tg := lt.go (dueO rows)[i]
        by_cases c : m < t + lenR rows (dueO rows)[i] - dueR rows (dueO rows)[i]
        · have c' : m < t + (atR rows (dueO rows)[i]).1 - (atR rows (dueO rows)[i]).2.2.1 := c
          refine wSs_step ?_; simp_arith [c']
          refine wSs_step ?_; simp_arith [e3, ct, e4]
          refine sorted_ints ?_
          rw [sortZ_ints]
          refine hK _ _ ⟨x3.trans (Ext.app.trans .app), i + 1, _, _, _, _, _, hlt, rfl, rfl, .inr ⟨_, i, _, rfl, ?_, new_get, by simp; omega⟩⟩
          have q := tg.1 c
          rw [List.length_take, Nat.min_eq_left hi] at q
          rw [tk]
          exact q
        · have c' : ¬ m < t + (atR rows (dueO rows)[i]).1 - (atR rows (dueO rows)[i]).2.2.1 := c
          refine wSs_step ?_; simp_arith [c']
          refine hK _ _ ⟨x3, i + 1, _, _, _, _, _, hlt, rfl, rfl, .inr ⟨m, p, s, rfl, ?_, es, fs⟩⟩
          rw [tk]
          exact tg.2 c
    · have : i = (dueO rows).length := by omega
      subst this
      rw [List.drop_of_length_le (by rw [List.length_map]; exact Nat.le_refl _)] at e
      cases e
  · rintro σ h3 ⟨x3, i, t, y3, y4, y5, y6, hi, e, rfl, st⟩
    refine ⟨⟨x3 _ _ e2, trivial⟩, ?_⟩
    have : i = (dueO rows).length := by
      apply Nat.le_antisymm hi
      apply Nat.le_of_not_lt
      intro l
      rw [enumL_drop (by rw [List.length_map]; exact l)] at e
      cases e
    subst this
    rcases st with ⟨z, _, _⟩ | ⟨m, p, s, rfl, lt, es, fs⟩
    · omega
    · rw [List.take_of_length_le (Nat.le_refl _)] at lt
      obtain ⟨q0, q1, q2, q3⟩ := lt.fin
      subst q1
      have l02 := (x1.trans x2).len
      refine wSs_step ?_; simp_arith [show ixN 2 0 = some 0 from rfl, show ixN 2 1 = some 1 from rfl]
      exact kf b s _ h3 ((x1.trans x2).trans x3) (by have := x1.len; omega) (by omega) (by have := lt_of_get e2; omega) (x3 _ _ e2) es q0 q2 q3
end Law

namespace Law
open PySem Z Com
theorem take_mid {α : Type} (l : List α) (x : α) (j : Nat) : l.take j ++ [x] ++ l.drop j = l.take j ++ x :: l.drop j := by simp
def ins (n j : Nat) (os : List Int) : List Int := os.take j ++ [(n : Int)] ++ os.drop j
theorem ins_perm {n j : Nat} {os : List Int} (p : Ord n os) : Ord (n + 1) (ins n j os) := by
  unfold Ord ins
  rw [nums_succ, take_mid]
  have : (os.take j ++ (n : Int) :: os.drop j).Perm ((n : Int) :: os) := by
    refine (List.perm_middle).trans ?_
    rw [List.take_append_drop]
  exact this.trans ((p.cons _).trans (List.perm_append_singleton _ _).symm)
theorem ins_all {n : Nat} {os : List Int} (p : Ord (n + 1) os) : ∃ os' j, Ord n os' ∧ j ≤ n ∧ os = ins n j os' := by
  have hm : (n : Int) ∈ os := p.mem.mpr (by omega)
  obtain ⟨A, B, rfl⟩ := List.append_of_mem hm
  have q : (A ++ B).Perm (nums n) := by
    have h1 : ((n : Int) :: (A ++ B)).Perm ((n : Int) :: nums n) := (List.perm_middle.symm.trans p).trans (by rw [nums_succ]; exact List.perm_append_singleton _ _)
    exact h1.cons_inv
  have ql := Ord.len q
  rw [List.length_append] at ql
  refine ⟨A ++ B, A.length, q, by omega, ?_⟩
  unfold ins
  rw [take_mid, List.take_left, List.drop_left]
structure Ords (h : Hep) (n : Nat) (qs : List Nat) : Prop where
  good : ∀ q ∈ qs, ∃ os : List Int, h[q]? = some (.lst (os.map PV.int)) ∧ Ord n os
  all : ∀ os : List Int, Ord n os → ∃ q ∈ qs, h[q]? = some (.lst (os.map PV.int))
theorem Ords.ext {h h' : Hep} {n : Nat} {qs : List Nat} (o : Ords h n qs) (x : Ext h h') : Ords h' n qs := ⟨fun q hq => by
  obtain ⟨os, e, p⟩ := o.good q hq
  exact ⟨os, x _ _ e, p⟩, fun os p => by
  obtain ⟨q, hq, e⟩ := o.all os p
  exact ⟨q, hq, x _ _ e⟩⟩
/-- some of the next ones -/
structure Part (h : Hep) (n : Nat) (src : List (List Int)) (js : Nat) (ps : List Nat) : Prop where
  good : ∀ q ∈ ps, ∃ os : List Int, h[q]? = some (.lst (os.map PV.int)) ∧ Ord (n + 1) os
  all : ∀ os ∈ src, ∀ j, j < js → ∃ q ∈ ps, h[q]? = some (.lst ((ins n j os).map PV.int))
theorem Part.ext {h h' : Hep} {n js : Nat} {src : List (List Int)} {qs : List Nat} (o : Part h n src js qs) (x : ∀ q o, q ∈ qs → h[q]? = some o → h'[q]? = some o) : Part h' n src js qs := ⟨fun q hq => by
  obtain ⟨os, e, p⟩ := o.good q hq
  exact ⟨os, x _ _ hq e, p⟩, fun os ho j hj => by
  obtain ⟨q, hq, e⟩ := o.all os ho j hj
  exact ⟨q, hq, x _ _ hq e⟩⟩
end Law

namespace Law
open PySem Z Com
def rowD (r : Row) : PyData := .tuple [.int r.1, .int r.2.1, .int r.2.2.1, .int r.2.2.2]
theorem datAll_rows {h : Hep} {n : Nat} : ∀ rs : Rows, datAll (dat h (n + 1)) (rs.map rowV) = some (rs.map rowD)
  | [] => rfl
  | r :: rs => by
    rw [List.map_cons, datAll, datAll_rows rs]
    have : dat h (n + 1) (rowV r) = some (rowD r) := by
      show (datAll (dat h n) [.int r.1, .int r.2.1, .int r.2.2.1, .int r.2.2.2]).map PyData.tuple = _
      rw [show datAll (dat h n) [.int r.1, .int r.2.1, .int r.2.2.1, .int r.2.2.2] = some [.int r.1, .int r.2.1, .int r.2.2.1, .int r.2.2.2] from datAll_ints (dat_int h n) [r.1, r.2.1, r.2.2.1, r.2.2.2]]
      rfl
    rw [this]
    rfl
theorem lay_rows : ∀ rs : Rows, PyData.canLayAll0 (rs.map rowD) = true
  | [] => rfl
  | r :: rs => lay_rows rs
theorem eqW_rows {h : Hep} {r q : Nat} {rs : Rows} {K : Bool → Prop} (e1 : h[r]? = some (.lst (rs.map rowV))) (e2 : h[q]? = some (.lst (rs.map rowV))) (k : K true) : eqW h (.ref r) (.ref q) K :=
  eqW_same (dat_lst (n := 59) e1 (datAll_rows (n := 58) rs)) (dat_lst (n := 59) e2 (datAll_rows (n := 58) rs)) (lay_rows rs) k
theorem eqW_two {h : Hep} {a b c d : Nat} {xs ys : List Int} {K : Bool → Prop} (ea : h[a]? = some (.lst (xs.map PV.int))) (eb : h[b]? = some (.lst (ys.map PV.int))) (ec : h[c]? = some (.lst (xs.map PV.int))) (ed : h[d]? = some (.lst (ys.map PV.int))) (k : K true) :
    eqW h (.tup [.ref a, .ref b]) (.tup [.ref c, .ref d]) K := by
  have f : ∀ {p q : Nat}, h[p]? = some (.lst (xs.map PV.int)) → h[q]? = some (.lst (ys.map PV.int)) → dat h 60 (.tup [.ref p, .ref q]) = some (.tuple [.list (xs.map PyData.int), .list (ys.map PyData.int)]) := fun {p q} e1 e2 => by
    show (datAll (dat h 59) [.ref p, .ref q]).map PyData.tuple = _
    have f1 : dat h 59 (.ref p) = some (.list (xs.map PyData.int)) := dat_ints (n := 58) e1
    have f2 : dat h 59 (.ref q) = some (.list (ys.map PyData.int)) := dat_ints (n := 58) e2
    simp only [datAll, f1, f2, Option.map_some]
  refine eqW_same (f ea eb) (f ec ed) ?_ k
  simp only [PyData.canLay0, PyData.canLayAll0, lay_ints, Bool.and_self]
def getL1 (rows : Rows) : PV → PV
  | .int n => .int (lenR rows n)
  | _ => .non
def getD1 (rows : Rows) : PV → PV
  | .int n => .int (dueR rows n)
  | _ => .non
theorem getL_map (rows : Rows) (l : List Int) : (l.map PV.int).map (getL1 rows) = (l.map (lenR rows)).map PV.int := by rw [List.map_map, List.map_map]; rfl
theorem getD_map (rows : Rows) (l : List Int) : (l.map PV.int).map (getD1 rows) = (l.map (dueR rows)).map PV.int := by rw [List.map_map, List.map_map]; rfl
end Law

namespace Law
open PySem Z Com
theorem cutL_mid {α : Type} (xs : List α) (i j : Nat) (h : i ≤ xs.length) (hj : i ≤ j) : cutL xs (some (i : Int)) (some (j : Int)) = (xs.drop i).take (j - i) := by
  unfold cutL
  have e1 : sIx xs.length 0 (some (i : Int)) = i := by
    rw [show sIx xs.length 0 (some (i : Int)) = min i xs.length from HT.sIx_nat _ _ _, Nat.min_eq_left h]
  have e2 : sIx xs.length xs.length (some (j : Int)) = min j xs.length := HT.sIx_nat _ _ _
  rw [e1, e2]
  by_cases c : j ≤ xs.length
  · rw [Nat.min_eq_left c]
  · rw [Nat.min_eq_right (by omega), List.take_of_length_le (by rw [List.length_drop]; omega), List.take_of_length_le (by rw [List.length_drop]; omega)]
theorem cutL_from {α : Type} (xs : List α) (i : Nat) : cutL xs (some (i : Int)) none = xs.drop i := by
  by_cases c : i ≤ xs.length
  · exact cutL_drop xs i c
  · unfold cutL
    have e : sIx xs.length 0 (some (i : Int)) = xs.length := by
      rw [show sIx xs.length 0 (some (i : Int)) = min i xs.length from HT.sIx_nat _ _ _, Nat.min_eq_right (by omega)]
    have e2 : sIx xs.length xs.length none = xs.length := rfl
    rw [e, e2, List.drop_of_length_le (Nat.le_refl _), List.drop_of_length_le (by omega)]
    exact List.take_nil
def sp__law_order : Z.Spec := fun args h F _ => ∃ (d : Nat) (n : Nat), args = [.ref d, .int n] ∧ IsDraw h d (10 ^ 9) ∧ n ≤ 30 ∧ ∀ (r : Nat) (h' : Hep) (os : List Int), ExtB d h h' → h.length ≤ r → h'[r]? = some (.lst (os.map PV.int)) → Ord n os → IsDraw h' d (10 ^ 9 + 30) → F (.ref r) h'
theorem mt__law_order : Meets [sp__law_next] 4 2 ir__law_order sp__law_order := by
  rintro args h F E ⟨d, n, rfl, dr, hn, kf⟩
  refine ⟨rfl, ?_⟩
  unfold ir__law_order
  have lb := dr.lt
  show wSs _ _ [some _, some _, none, none] h _
  refine wSs_step ?_; simp_arith []
  refine ⟨by omega, by omega, ?_⟩
  rw [nums_pv]
  refine wSs_step ?_; simp_arith []
  refine ⟨by omega, by omega, ?_⟩
  refine wComp_ind (fun rest acc h' => ∃ (L Fd : List Int), acc = Fd.map PV.int ∧ rest.length = L.length ∧ h'[h.length]? = some (.lst (L.map PV.int)) ∧ (Fd ++ L).Perm (nums n) ∧ IsDraw h' d (10 ^ 9 + Fd.length) ∧ ExtB d h h') _ _ _ ⟨nums n, [], rfl, by simp [rngL, nums_len], new_get, List.Perm.refl _, dr.app.le (by simp), Ext.app.b⟩ ?_ ?_
  · rintro x rest acc h1 ⟨L, Fd, rfl, rl, e1, pm, D1, X1⟩
    have pl := pm.length_eq
    rw [List.length_append, nums_len] at pl
    rw [List.length_cons] at rl
    refine ⟨trivial, _, rfl, fun K hK => ?_⟩
    simp_arith [e1]
    refine next_step D1 (by omega) (by omega) (by omega) fun v h2 v1 v2 D2 X2 => ?_
    have e2 : h2[h.length]? = some (.lst (L.map PV.int)) := X2.2 _ _ (by omega) e1
    have vn : v.toNat < L.length := by omega
    simp_arith [e2, ixN_int v1 v2, List.getElem?_eq_getElem vn]
    refine ⟨by omega, by omega, by omega, ?_⟩
    refine hK _ _ ⟨L.eraseIdx v.toNat, Fd ++ [L[v.toNat]], by rw [List.map_append]; rfl, by rw [List.length_eraseIdx_of_lt vn]; omega, ?_, ?_, ?_, ?_⟩
    · rw [set_get e2, map_erase]
    · refine List.Perm.trans ?_ pm
      rw [List.append_assoc]
      exact List.Perm.append_left _ (erase_perm L _ vn)
    · exact (D2.set (by omega)).le (by simp; omega)
    · exact (X1.trans X2).set' (by omega)
  · rintro acc h1 ⟨L, Fd, rfl, rl, e1, pm, D1, X1⟩
    refine ⟨trivial, ?_⟩
    obtain rfl : L = [] := List.length_eq_zero_iff.mp rl.symm
    rw [List.append_nil] at pm
    have fl := Ord.len pm
    exact kf _ _ Fd X1.app (by have := X1.1; omega) new_get pm (D1.app.le (by omega))
/-! ### two neighbours exchanged; longer rows, due earlier -/
def near (os : List Int) (i : Nat) : List Int := os.take i ++ ((os.drop i).take 2).reverse ++ os.drop (i + 2)
theorem near_ord {n i : Nat} {os : List Int} (o : Ord n os) : Ord n (near os i) := by
  refine List.Perm.trans ?_ o
  unfold near
  have e : os = os.take i ++ (os.drop i).take 2 ++ os.drop (i + 2) := by
    rw [List.append_assoc, show os.drop (i + 2) = (os.drop i).drop 2 by rw [List.drop_drop], List.take_append_drop, List.take_append_drop]
  conv => rhs; rw [e]
  exact ((List.reverse_perm _).append_left _).append_right _
/-- longer lengths, lesser BYs -/
def Grown (rows gs : Rows) : Prop := gs.length = rows.length ∧ ∀ i : Int, 0 ≤ i → i < rows.length → lenR rows i ≤ lenR gs i ∧ dueR gs i ≤ dueR rows i
theorem lates_up {rows gs : Rows} : ∀ (os : List Int) (t u : Int), t ≤ u → (∀ i ∈ os, lenR rows i ≤ lenR gs i ∧ dueR gs i ≤ dueR rows i) → ∀ x ∈ lates rows t os, ∃ y ∈ lates gs u os, x ≤ y
  | [], _, _, _, _, x, hx => by cases hx
  | k :: os, t, u, h, hb, x, hx => by
    obtain ⟨h1, h2⟩ := hb k List.mem_cons_self
    rw [lates] at hx
    rcases List.mem_cons.mp hx with hx | hx
    · exact ⟨_, by rw [lates]; exact List.mem_cons_self, by omega⟩
    · obtain ⟨y, hy, le⟩ := lates_up os (t + lenR rows k) (u + lenR gs k) (by omega) (fun i hi => hb i (List.mem_cons_of_mem _ hi)) x hx
      exact ⟨y, by rw [lates]; exact List.mem_cons_of_mem _ hy, le⟩
theorem grown_late {rows gs : Rows} (g : Grown rows gs) {os : List Int} (o : Ord rows.length os) (l1 : 1 ≤ rows.length) : late rows os ≤ late gs os := by
  have ne : lates rows 0 os ≠ [] := by
    have := o.len
    cases os with
    | nil => simp at this; omega
    | cons x l => intro z; cases z
  obtain ⟨y, hy, le⟩ := lates_up (rows := rows) (gs := gs) os 0 0 (Int.le_refl _) (fun i hi => by have := o.mem.mp hi; exact g.2 i this.1 this.2) _ (maxL_mem _ ne).1
  have := le_maxL hy
  unfold late
  omega
theorem grown_least {rows gs : Rows} (good : ∀ p ∈ rows, GoodRow p) (g : Grown rows gs) (l1 : 1 ≤ rows.length) : late rows (dueO rows) ≤ late gs (dueO gs) := by
  have o : Ord rows.length (dueO gs) := by have := dueO_ord gs; rw [g.1] at this; exact this
  obtain ⟨S, gS, sh⟩ := due_shown l1
  have h1 := late_least good o gS
  have h2 := grown_late g o l1
  omega
end Law

/-! k38wa: one machine, hour by hour, parted: what is done next (plain law) -/
namespace Law
open PySem Z Com
abbrev Pc := Int × Int × Int
structure St where
  left : List Int
  hour : Int
  pcs : List Pc
  done : List Int
def st0 (rows : Rows) : St := ⟨rows.map (·.1), 0, [], List.replicate rows.length 0⟩
def lfA (s : St) (i : Nat) : Int := (s.left[i]?).getD 0
def mayB (s : St) (p : Row × Nat) : Bool := decide (0 < lfA s p.2) && decide (p.1.2.1 ≤ s.hour)
def keyP (p : Row × Nat) : Int × Int := (p.1.2.2.1, (p.2 : Int))
def someF (rows : Rows) (s : St) : List (Int × Int) := (rows.zipIdx.filter (mayB s)).map keyP
def whoF (rows : Rows) (s : St) : Option Int := ((srtP (someF rows s)).head?).map (·.2)
def lateB (t : Int) (r : Row) : Bool := decide (t < r.2.1)
def comeL (rows : Rows) (t : Int) : List Int := (rows.filter (lateB t)).map (·.2.1)
def nextF (rows : Rows) (t : Int) : Option Int := if comeL rows t = [] then none else some (minL (comeL rows t))
def behF (rows : Rows) (s : St) (n : Int) : Int := match nextF rows s.hour with
  | none => s.hour + lfA s n.toNat
  | some b => min (s.hour + lfA s n.toNat) b
def putF (s : St) (n b : Int) : List Pc := match s.pcs[s.pcs.length - 1]? with
  | some q => if q.1 = n ∧ q.2.2 = s.hour then s.pcs.set (s.pcs.length - 1) (n, q.2.1, b) else s.pcs ++ [(n, s.hour, b)]
  | none => s.pcs ++ [(n, s.hour, b)]
def stepF (rows : Rows) (s : St) : St := match whoF rows s with
  | none => { s with hour := (nextF rows s.hour).getD 0 }
  | some n => { left := s.left.set n.toNat (lfA s n.toNat - (behF rows s n - s.hour)), hour := behF rows s n, pcs := putF s n (behF rows s n), done := if lfA s n.toNat - (behF rows s n - s.hour) = 0 then s.done.set n.toNat (behF rows s n) else s.done }
inductive Reach (rows : Rows) : St → Prop
  | base : Reach rows (st0 rows)
  | step {s : St} (r : Reach rows s) (g : 0 < maxL s.left) : Reach rows (stepF rows s)
theorem some_mem {rows : Rows} {s : St} {d n : Int} : (d, n) ∈ someF rows s ↔ ∃ i r, n = ((i : Nat) : Int) ∧ rows[i]? = some r ∧ d = r.2.2.1 ∧ 0 < lfA s i ∧ r.2.1 ≤ s.hour := by
  unfold someF
  rw [List.mem_map]
  constructor
  · rintro ⟨⟨r, i⟩, hm, e⟩
    obtain ⟨m, c⟩ := List.mem_filter.mp hm
    have lk := List.mem_zipIdx_iff_getElem?.mp m
    unfold mayB at c
    simp only [Bool.and_eq_true, decide_eq_true_eq] at c
    unfold keyP at e
    cases e
    exact ⟨i, r, rfl, lk, rfl, c.1, c.2⟩
  · rintro ⟨i, r, rfl, e, rfl, h1, h2⟩
    refine ⟨(r, i), List.mem_filter.mpr ⟨List.mem_zipIdx_iff_getElem?.mpr e, ?_⟩, rfl⟩
    unfold mayB
    rw [decide_eq_true h1, decide_eq_true h2]; rfl
theorem who_some {rows : Rows} {s : St} {n : Int} (e : whoF rows s = some n) : ∃ d, (d, n) ∈ someF rows s ∧ ∀ y ∈ someF rows s, d < y.1 ∨ (d = y.1 ∧ n ≤ y.2) := by
  unfold whoF at e
  cases h : srtP (someF rows s) with
  | nil => rw [h] at e; cases e
  | cons q l =>
    rw [h] at e
    cases e
    have pm := srtP_perm (someF rows s)
    have so := srtP_sorted (someF rows s)
    rw [h] at pm so
    refine ⟨q.1, pm.mem_iff.mp List.mem_cons_self, fun y hy => ?_⟩
    rcases List.mem_cons.mp (pm.mem_iff.mpr hy) with z | z
    · rw [z]; exact .inr ⟨rfl, Int.le_refl _⟩
    · exact (List.pairwise_cons.mp so).1 y z
theorem who_none {rows : Rows} {s : St} (e : whoF rows s = none) : someF rows s = [] := by
  unfold whoF at e
  cases h : srtP (someF rows s) with
  | nil =>
    have pm := srtP_perm (someF rows s)
    rw [h] at pm
    exact List.Perm.nil_eq pm |>.symm
  | cons q l => rw [h] at e; cases e
theorem who_is {rows : Rows} {s : St} {d n : Int} (m : (d, n) ∈ someF rows s) (l : ∀ y ∈ someF rows s, d < y.1 ∨ (d = y.1 ∧ n ≤ y.2)) : whoF rows s = some n := by
  cases h : whoF rows s with
  | none => rw [who_none h] at m; cases m
  | some k =>
    obtain ⟨e, m2, l2⟩ := who_some h
    have a := l _ m2
    have b := l2 _ m
    have a : d < e ∨ (d = e ∧ n ≤ k) := a
    have b : e < d ∨ (e = d ∧ k ≤ n) := b
    congr 1; omega
theorem come_mem {rows : Rows} {t f : Int} : f ∈ comeL rows t ↔ ∃ r ∈ rows, r.2.1 = f ∧ t < f := by
  unfold comeL
  rw [List.mem_map]
  constructor
  · rintro ⟨r, hr, rfl⟩
    obtain ⟨m, c⟩ := List.mem_filter.mp hr
    exact ⟨r, m, rfl, of_decide_eq_true c⟩
  · rintro ⟨r, m, rfl, c⟩
    exact ⟨r, List.mem_filter.mpr ⟨m, decide_eq_true c⟩, rfl⟩
theorem next_some {rows : Rows} {t b : Int} (e : nextF rows t = some b) : b ∈ comeL rows t ∧ ∀ f ∈ comeL rows t, b ≤ f := by
  unfold nextF at e
  split at e
  · cases e
  · rename_i c
    cases e
    exact minL_mem _ c
theorem next_gt {rows : Rows} {t b : Int} (e : nextF rows t = some b) : t < b := by
  obtain ⟨m, _⟩ := next_some e
  obtain ⟨r, _, _, c⟩ := come_mem.mp m
  exact c
/-- what holds all along -/
structure InvS (rows : Rows) (s : St) : Prop where
  ll : s.left.length = rows.length
  dl : s.done.length = rows.length
  l0 : ∀ x ∈ s.left, 0 ≤ x
  l1 : ∀ x ∈ s.left, x ≤ 1000
  h0 : 0 ≤ s.hour
  pn : ∀ p ∈ s.pcs, 0 ≤ p.1 ∧ p.1 < (rows.length : Int)
  pd : ∀ i : Nat, i < rows.length → lfA s i = 0 → ∃ a e, ((i : Int), a, e) ∈ s.pcs ∧ s.done[i]? = some e
theorem lf_get {s : St} {i : Nat} (h : i < s.left.length) : s.left[i]? = some (lfA s i) := by
  unfold lfA
  rw [List.getElem?_eq_getElem h]; rfl
theorem inv0 {rows : Rows} (good : ∀ p ∈ rows, GoodRow p) : InvS rows (st0 rows) where
  ll := by show (rows.map (·.1)).length = _; rw [List.length_map]
  dl := List.length_replicate
  l0 := fun x hx => by
    obtain ⟨r, hr, rfl⟩ := List.mem_map.mp hx
    have := (good r hr).1; omega
  l1 := fun x hx => by
    obtain ⟨r, hr, rfl⟩ := List.mem_map.mp hx
    have := (good r hr).1; omega
  h0 := Int.le_refl _
  pn := fun p hp => nomatch hp
  pd := fun i hi e => by
    exfalso
    have : (st0 rows).left[i]? = some rows[i].1 := by show (rows.map (·.1))[i]? = _; rw [List.getElem?_map, List.getElem?_eq_getElem hi]; rfl
    unfold lfA at e
    rw [this] at e
    have := (good _ (List.getElem_mem hi)).1
    have e : rows[i].1 = 0 := e
    omega
theorem who_at {rows : Rows} {s : St} {n : Int} (I : InvS rows s) (e : whoF rows s = some n) : ∃ (i : Nat) (r : Row), n = (i : Int) ∧ i < rows.length ∧ rows[i]? = some r ∧ 0 < lfA s i ∧ r.2.1 ≤ s.hour ∧ s.left[i]? = some (lfA s i) := by
  obtain ⟨d, m, _⟩ := who_some e
  obtain ⟨i, r, rfl, er, _, h1, h2⟩ := some_mem.mp m
  have il := (List.getElem?_eq_some_iff.mp er).1
  exact ⟨i, r, rfl, il, er, h1, h2, lf_get (by rw [I.ll]; exact il)⟩
theorem beh_bd {rows : Rows} {s : St} {i : Nat} (h : 0 < lfA s i) : s.hour < behF rows s i ∧ behF rows s i ≤ s.hour + lfA s i := by
  unfold behF
  rw [Int.toNat_natCast]
  cases e : nextF rows s.hour with
  | none => exact ⟨by show s.hour < s.hour + lfA s i; omega, Int.le_refl _⟩
  | some b =>
    have := next_gt e
    show s.hour < min (s.hour + lfA s i) b ∧ min (s.hour + lfA s i) b ≤ _
    omega
/-- somebody comes, if nobody may work -/
theorem come_some {rows : Rows} {s : St} (I : InvS rows s) (g : 0 < maxL s.left) (e : whoF rows s = none) : ∃ b, nextF rows s.hour = some b := by
  have ne : s.left ≠ [] := fun z => by rw [z] at g; exact absurd g (by decide)
  obtain ⟨m, _⟩ := maxL_mem s.left ne
  obtain ⟨i, hi, ei⟩ := List.mem_iff_getElem.mp m
  have hr : i < rows.length := by rw [← I.ll]; exact hi
  have li : lfA s i = maxL s.left := by unfold lfA; rw [List.getElem?_eq_getElem hi]; exact ei
  have er : rows[i]? = some rows[i] := List.getElem?_eq_getElem hr
  have late : s.hour < rows[i].2.1 := by
    apply Int.not_le.mp
    intro c
    have : (rows[i].2.2.1, (i : Int)) ∈ someF rows s := some_mem.mpr ⟨i, _, rfl, er, rfl, by omega, c⟩
    rw [who_none e] at this
    cases this
  have mc : rows[i].2.1 ∈ comeL rows s.hour := come_mem.mpr ⟨_, List.getElem_mem hr, rfl, late⟩
  unfold nextF
  rw [if_neg (fun z => by rw [z] at mc; cases mc)]
  exact ⟨_, rfl⟩
theorem lf_set {s : St} {i j : Nat} {v : Int} (h : i < s.left.length) {hr : Int} {P : List Pc} {D : List Int} : lfA ⟨s.left.set i v, hr, P, D⟩ j = if i = j then v else lfA s j := by
  unfold lfA
  show ((s.left.set i v)[j]?).getD 0 = _
  rw [List.getElem?_set]
  split
  · first | rfl | (rw [if_pos h]; rfl)
  · rfl
theorem put_mem {s : St} {n b : Int} {p : Pc} (h : p ∈ putF s n b) : p.1 = n ∨ p ∈ s.pcs := by
  unfold putF at h
  split at h
  · split at h
    · rcases List.mem_or_eq_of_mem_set h with h | h
      · exact .inr h
      · exact .inl (by rw [h])
    · rcases List.mem_append.mp h with h | h
      · exact .inr h
      · exact .inl (by rw [List.mem_singleton.mp h])
  · rcases List.mem_append.mp h with h | h
    · exact .inr h
    · exact .inl (by rw [List.mem_singleton.mp h])
theorem put_new {s : St} {n b : Int} : ∃ a, (n, a, b) ∈ putF s n b := by
  unfold putF
  split
  · rename_i q e
    split
    · exact ⟨q.2.1, List.mem_set (List.getElem?_eq_some_iff.mp e).1 _⟩
    · exact ⟨s.hour, by simp⟩
  · exact ⟨s.hour, by simp⟩
theorem put_old {s : St} {n b : Int} {p : Pc} (h : p ∈ s.pcs) (ne : p.1 ≠ n) : p ∈ putF s n b := by
  unfold putF
  split
  · rename_i q e
    split
    · rename_i c
      obtain ⟨k, hk, ek⟩ := List.mem_iff_getElem.mp h
      have kne : s.pcs.length - 1 ≠ k := fun z => by
        subst z
        rw [List.getElem?_eq_getElem hk] at e
        cases e
        exact ne (by rw [← ek]; exact c.1)
      refine List.mem_iff_getElem?.mpr ⟨k, ?_⟩
      rw [List.getElem?_set_ne kne, List.getElem?_eq_getElem hk, ek]
    · exact List.mem_append_left _ h
  · exact List.mem_append_left _ h
theorem put_len (s : St) (n b : Int) : (putF s n b).length ≤ s.pcs.length + 1 := by
  unfold putF
  split
  · split
    · rw [List.length_set]; omega
    · rw [List.length_append]; exact Nat.le_refl _
  · rw [List.length_append]; exact Nat.le_refl _
theorem step_none {rows : Rows} {s : St} (e : whoF rows s = none) : stepF rows s = { s with hour := (nextF rows s.hour).getD 0 } := by unfold stepF; rw [e]
theorem step_some {rows : Rows} {s : St} {n : Int} (e : whoF rows s = some n) : stepF rows s = { left := s.left.set n.toNat (lfA s n.toNat - (behF rows s n - s.hour)), hour := behF rows s n, pcs := putF s n (behF rows s n), done := if lfA s n.toNat - (behF rows s n - s.hour) = 0 then s.done.set n.toNat (behF rows s n) else s.done } := by unfold stepF; rw [e]
theorem InvS.step {rows : Rows} {s : St} (I : InvS rows s) (g : 0 < maxL s.left) : InvS rows (stepF rows s) := by
  cases e : whoF rows s with
  | none =>
    obtain ⟨b, eb⟩ := come_some I g e
    have := next_gt eb
    rw [step_none e, eb]
    exact ⟨I.ll, I.dl, I.l0, I.l1, by show 0 ≤ b; have := I.h0; omega, I.pn, I.pd⟩
  | some n =>
    obtain ⟨i, r, rfl, il, er, h1, h2, el⟩ := who_at I e
    have ls : i < s.left.length := by rw [I.ll]; exact il
    obtain ⟨b1, b2⟩ := beh_bd (rows := rows) h1
    have lm := List.mem_of_getElem? el
    have l1 := I.l1 _ lm
    rw [step_some e]
    simp only [Int.toNat_natCast]
    generalize behF rows s i = b at b1 b2
    refine ⟨by show (s.left.set i _).length = _; rw [List.length_set, I.ll], ?_, fun x hx => ?_, fun x hx => ?_, by show 0 ≤ b; have := I.h0; omega, fun p hp => ?_, fun j hj e0 => ?_⟩
    · show (if _ then s.done.set i b else s.done).length = _
      split
      · rw [List.length_set, I.dl]
      · exact I.dl
    · rcases List.mem_or_eq_of_mem_set hx with hx | rfl
      · exact I.l0 x hx
      · omega
    · rcases List.mem_or_eq_of_mem_set hx with hx | rfl
      · exact I.l1 x hx
      · omega
    · rcases put_mem hp with z | z
      · rw [z]; omega
      · exact I.pn p z
    · rw [lf_set ls] at e0
      by_cases c : i = j
      · subst c
        rw [if_pos rfl] at e0
        obtain ⟨a, ha⟩ := put_new (s := s) (n := (i : Int)) (b := b)
        refine ⟨a, b, ha, ?_⟩
        show (if _ then s.done.set i b else s.done)[i]? = some b
        rw [if_pos e0, List.getElem?_set_self (by rw [I.dl]; exact il)]
      · rw [if_neg c] at e0
        obtain ⟨a, f, m, d⟩ := I.pd j hj e0
        refine ⟨a, f, put_old m (fun z => c (by have z : ((j : Nat) : Int) = (i : Int) := z; omega)), ?_⟩
        show (if _ then s.done.set i b else s.done)[j]? = some f
        split
        · rw [List.getElem?_set_ne c]; exact d
        · exact d
theorem Reach.inv {rows : Rows} (good : ∀ p ∈ rows, GoodRow p) {s : St} (r : Reach rows s) : InvS rows s := by
  induction r with
  | base => exact inv0 good
  | step r g ih => exact ih.step g
/-! ### it ends -/
theorem sum_set : ∀ {l : List Int} {i : Nat} {x v : Int}, l[i]? = some x → (l.set i v).sum = l.sum - x + v
  | y :: l, 0, x, v, e => by
    simp at e
    subst e
    show v + l.sum = y + l.sum - y + v
    omega
  | y :: l, i + 1, x, v, e => by
    have := sum_set (l := l) (i := i) (x := x) (v := v) (by simpa using e)
    show y + (l.set i v).sum = y + l.sum - x + v
    omega
theorem sum_nn : ∀ {l : List Int}, (∀ x ∈ l, 0 ≤ x) → 0 ≤ l.sum
  | [], _ => Int.le_refl _
  | x :: l, h => by
    have a := h x List.mem_cons_self
    have b := sum_nn fun y hy => h y (List.mem_cons_of_mem _ hy)
    show 0 ≤ x + l.sum
    omega
theorem sum_le : ∀ {l : List Int}, (∀ x ∈ l, x ≤ 1000) → l.sum ≤ 1000 * (l.length : Int)
  | [], _ => Int.le_refl _
  | x :: l, h => by
    have a := h x List.mem_cons_self
    have b := sum_le fun y hy => h y (List.mem_cons_of_mem _ hy)
    rw [List.length_cons]
    show x + l.sum ≤ _
    omega
theorem come_le {rows : Rows} {t u : Int} (h : t ≤ u) : (comeL rows u).length ≤ (comeL rows t).length := by
  unfold comeL
  rw [List.length_map, List.length_map]
  induction rows with
  | nil => exact Nat.le_refl _
  | cons r rows ih =>
    rw [List.filter_cons, List.filter_cons]
    by_cases c : lateB u r = true
    · have c2 : lateB t r = true := decide_eq_true (by have := of_decide_eq_true c; omega)
      rw [if_pos c, if_pos c2, List.length_cons, List.length_cons]; omega
    · rw [if_neg c]
      split
      · rw [List.length_cons]; omega
      · exact ih
theorem come_lt {rows : Rows} {t u : Int} (h : t ≤ u) (m : u ∈ comeL rows t) : (comeL rows u).length < (comeL rows t).length := by
  obtain ⟨r0, hr, e, c0⟩ := come_mem.mp m
  clear m
  unfold comeL
  rw [List.length_map, List.length_map]
  have le := fun rs => come_le (rows := rs) h
  unfold comeL at le
  induction rows with
  | nil => cases hr
  | cons r rows ih =>
    have l1 := le rows
    rw [List.length_map, List.length_map] at l1
    rw [List.filter_cons, List.filter_cons]
    rcases List.mem_cons.mp hr with rfl | hr
    · have c1 : ¬ lateB u r0 = true := fun z => by have := of_decide_eq_true z; omega
      have c2 : lateB t r0 = true := decide_eq_true (by omega)
      rw [if_neg c1, if_pos c2, List.length_cons]; omega
    · have := ih hr
      by_cases c : lateB u r = true
      · have c2 : lateB t r = true := decide_eq_true (by have := of_decide_eq_true c; omega)
        rw [if_pos c, if_pos c2, List.length_cons, List.length_cons]; omega
      · rw [if_neg c]
        split
        · rw [List.length_cons]; omega
        · exact this
def msr (rows : Rows) (s : St) : Nat := s.left.sum.toNat + (comeL rows s.hour).length
theorem msr_lt {rows : Rows} {s : St} (I : InvS rows s) (g : 0 < maxL s.left) : msr rows (stepF rows s) < msr rows s := by
  have s0 := sum_nn I.l0
  unfold msr
  cases e : whoF rows s with
  | none =>
    obtain ⟨b, eb⟩ := come_some I g e
    rw [step_none e, eb]
    have := come_lt (Int.le_of_lt (next_gt eb)) (next_some eb).1
    show s.left.sum.toNat + (comeL rows b).length < _
    omega
  | some n =>
    obtain ⟨i, r, rfl, il, er, h1, h2, el⟩ := who_at I e
    obtain ⟨b1, b2⟩ := beh_bd (rows := rows) h1
    rw [step_some e]
    simp only [Int.toNat_natCast]
    generalize behF rows s i = b at b1 b2
    have := come_le (rows := rows) (Int.le_of_lt b1)
    have ss := sum_set (v := lfA s i - (b - s.hour)) el
    have lm := I.l0 _ (List.mem_of_getElem? el)
    have s1 := sum_nn (l := s.left.set i (lfA s i - (b - s.hour))) fun x hx => by
      rcases List.mem_or_eq_of_mem_set hx with hx | rfl
      · exact I.l0 x hx
      · omega
    show (s.left.set i (lfA s i - (b - s.hour))).sum.toNat + (comeL rows b).length < _
    omega
theorem pcs_bd {rows : Rows} (good : ∀ p ∈ rows, GoodRow p) (l : rows.length ≤ 30) {s : St} (r : Reach rows s) : s.pcs.length + msr rows s ≤ 40000 := by
  induction r with
  | base =>
    have I := inv0 good
    have a := sum_le I.l1
    have b := sum_nn I.l0
    have c : (comeL rows (st0 rows).hour).length ≤ rows.length := by unfold comeL; rw [List.length_map]; exact List.length_filter_le _ _
    rw [I.ll] at a
    unfold msr
    show 0 + _ ≤ _
    omega
  | step r g ih =>
    rename_i s
    have I := r.inv good
    have m := msr_lt I g
    have : (stepF rows s).pcs.length ≤ s.pcs.length + 1 := by
      cases e : whoF rows s with
      | none => rw [step_none e]; show s.pcs.length ≤ _; omega
      | some n => rw [step_some e]; exact put_len _ _ _
    omega
end Law

/-! k38wb: Work: its state, who works, who comes -/
namespace Law
open PySem Z Com
def pcV (p : Pc) : PV := .tup [.int p.1, .int p.2.1, .int p.2.2]
def wkFs (r l q d : Nat) (t : Int) : List (Str × PV) := [(Str.ofString "rows", .ref r), (Str.ofString "left", .ref l), (Str.ofString "hour", .int t), (Str.ofString "pieces", .ref q), (Str.ofString "done_at", .ref d)]
theorem lk_rows (r l q d : Nat) (t : Int) : (wkFs r l q d t).lookup (Str.ofString "rows") = some (.ref r) := rfl
theorem lk_left (r l q d : Nat) (t : Int) : (wkFs r l q d t).lookup (Str.ofString "left") = some (.ref l) := rfl
theorem lk_hour (r l q d : Nat) (t : Int) : (wkFs r l q d t).lookup (Str.ofString "hour") = some (.int t) := rfl
theorem lk_pieces (r l q d : Nat) (t : Int) : (wkFs r l q d t).lookup (Str.ofString "pieces") = some (.ref q) := rfl
theorem lk_done (r l q d : Nat) (t : Int) : (wkFs r l q d t).lookup (Str.ofString "done_at") = some (.ref d) := rfl
theorem lk_who (r l q d : Nat) (t : Int) : (wkFs r l q d t).lookup (Str.ofString "who_works") = none := rfl
theorem lk_next (r l q d : Nat) (t : Int) : (wkFs r l q d t).lookup (Str.ofString "next_come") = none := rfl
theorem lk_put (r l q d : Nat) (t : Int) : (wkFs r l q d t).lookup (Str.ofString "put") = none := rfl
theorem lk_go (r l q d : Nat) (t : Int) : (wkFs r l q d t).lookup (Str.ofString "go_on") = none := rfl
theorem put_hour (r l q d : Nat) (t u : Int) : putZ (Str.ofString "hour") (.int u) (wkFs r l q d t) = wkFs r l q d u := rfl
theorem wkFs_len (r l q d : Nat) (t : Int) : (wkFs r l q d t).length = 5 := rfl
/-- the state as it stands on the heap -/
structure WkO (h : Hep) (p r l q d : Nat) (rows : Rows) (s : St) : Prop where
  ob : h[p]? = some (.ins (Str.ofString "Work") (wkFs r l q d s.hour))
  er : h[r]? = some (.lst (rows.map rowV))
  el : h[l]? = some (.lst (s.left.map PV.int))
  eq : h[q]? = some (.lst (s.pcs.map pcV))
  ed : h[d]? = some (.lst (s.done.map PV.int))
  rp : r < p
  pl : p < l
  lq : l < q
  qd : q < d
theorem WkO.ext {h h' : Hep} {p r l q d : Nat} {rows : Rows} {s : St} (w : WkO h p r l q d rows s) (x : Ext h h') : WkO h' p r l q d rows s := ⟨x _ _ w.ob, x _ _ w.er, x _ _ w.el, x _ _ w.eq, x _ _ w.ed, w.rp, w.pl, w.lq, w.qd⟩
def opV : Option Int → PV
  | none => .non
  | some i => .int i
def sp_Work_who_works : Z.Spec := fun args h F _ => ∃ (p r l q d : Nat) (rows : Rows) (s : St), args = [.ref p] ∧ WkO h p r l q d rows s ∧ s.left.length = rows.length ∧ rows.length ≤ 30 ∧ ∀ h', Ext h h' → F (opV (whoF rows s)) h'
theorem dat_prs {h : Hep} (L : List (Int × Int)) : datAll (dat h 59) (L.map pairV) = some (L.map pairD) := datAll_pairs (n := 58) L
theorem alike_prs (L : List (Int × Int)) : PySem.W.AlikeAll (L.map pairD) := by
  refine ⟨fun x hx y hy => ?_, fun x hx => ?_⟩
  · obtain ⟨p, _, rfl⟩ := List.mem_map.mp hx
    obtain ⟨q, _, rfl⟩ := List.mem_map.mp hy
    simp [pairD, PySem.W.alike, PySem.W.alikeAll]
  · obtain ⟨p, _, rfl⟩ := List.mem_map.mp hx
    intro e; cases e
theorem depth_prs : ∀ L : List (Int × Int), PyData.depthAll (L.map pairD) ≤ 60
  | [] => by decide
  | p :: L => by
    have := depth_prs L
    show max (PyData.depth (pairD p)) (PyData.depthAll (L.map pairD)) ≤ 60
    have : PyData.depth (pairD p) = 1 := rfl
    omega
/-- the least of pairs -/
theorem minD_prs (a : Int × Int) : ∀ L : List (Int × Int), ∃ m ∈ a :: L, PySem.W.minD (pairD a) (L.map pairD) = pairD m ∧ ∀ y ∈ a :: L, m.1 < y.1 ∨ (m.1 = y.1 ∧ m.2 ≤ y.2) := by
  intro L
  unfold PySem.W.minD
  induction L generalizing a with
  | nil => exact ⟨a, List.mem_cons_self, rfl, fun y hy => by rw [List.mem_singleton.mp hy]; exact .inr ⟨rfl, Int.le_refl _⟩⟩
  | cons b L ih =>
    rw [List.map_cons, List.foldl_cons]
    have lt : PySem.W.dataLt (pairD b) (pairD a) = decide (b.1 < a.1 ∨ (b.1 = a.1 ∧ b.2 < a.2)) := PySem.W.dataLt_ii _ _ _ _
    rw [lt]
    by_cases c : b.1 < a.1 ∨ (b.1 = a.1 ∧ b.2 < a.2)
    · rw [decide_eq_true c, if_pos rfl]
      obtain ⟨m, hm, e, l⟩ := ih b
      refine ⟨m, List.mem_cons_of_mem _ hm, e, fun y hy => ?_⟩
      rcases List.mem_cons.mp hy with rfl | hy
      · have := l b List.mem_cons_self; omega
      · exact l y hy
    · rw [decide_eq_false c, if_neg (by decide)]
      obtain ⟨m, hm, e, l⟩ := ih a
      refine ⟨m, ?_, e, fun y hy => ?_⟩
      · rcases List.mem_cons.mp hm with rfl | hm
        · exact List.mem_cons_self
        · exact List.mem_cons_of_mem _ (List.mem_cons_of_mem _ hm)
      · rcases List.mem_cons.mp hy with rfl | hy
        · exact l y List.mem_cons_self
        · rcases List.mem_cons.mp hy with rfl | hy
          · have := l a List.mem_cons_self; omega
          · exact l y (List.mem_cons_of_mem _ hy)
theorem pairD_inj {a b : Int × Int} (e : pairD a = pairD b) : a = b := by
  unfold pairD at e
  injection e with e
  injection e with e1 e
  injection e with e2 _
  injection e1 with e1
  injection e2 with e2
  exact Prod.ext e1 e2
theorem minp_prs {h : Hep} {L : List (Int × Int)} {G : PV → Prop} (ne : L ≠ []) (k : ∀ m ∈ L, (∀ y ∈ L, m.1 < y.1 ∨ (m.1 = y.1 ∧ m.2 ≤ y.2)) → G (pairV m)) : ∃ d ds, datAll (dat h 59) (L.map pairV) = some (d :: ds) ∧ PySem.W.AlikeAll (d :: ds) ∧ PyData.depthAll (d :: ds) ≤ 60 ∧ ∀ (i : Nat) (v : PV), Option.map pairV L[i]? = some v → (d :: ds)[i]? = some (PySem.W.minD d ds) → G v := by
  cases L with
  | nil => exact absurd rfl ne
  | cons a L =>
    refine ⟨pairD a, L.map pairD, dat_prs (a :: L), alike_prs (a :: L), depth_prs (a :: L), fun i v hv hd => ?_⟩
    obtain ⟨m, hm, em, lm⟩ := minD_prs a L
    rw [show pairD a :: L.map pairD = (a :: L).map pairD from rfl, List.getElem?_map, em] at hd
    cases hg : (a :: L)[i]? with
    | none => rw [hg] at hv; cases hv
    | some x =>
      rw [hg] at hv hd
      cases hv
      have : x = m := pairD_inj (by injection hd)
      rw [this]
      exact k m hm lm
theorem srtP_nil : srtP [] = [] := (srtP_perm []).eq_nil
def ir_wwt : List Sm := [.ife (.and (.cmp .Gt (.idx (.fld (.var 0) "Work" "left") (.var 2)) (.int 0)) (.cmp .LtE (.idx (.var 3) (.int 1)) (.fld (.var 0) "Work" "hour"))) [.exp (.mi .append (.var 1) [(.tup [(.idx (.var 3) (.int 2)), (.var 2)])])] []]
theorem enum_z {α : Type} (f : α → PV) : ∀ (l : List α) (k : Nat), enumL k (l.map f) = (l.zipIdx k).map fun p => .tup [.int p.2, f p.1]
  | [], _ => rfl
  | x :: l, k => by
    rw [List.map_cons, enumL, enum_z f l (k + 1)]; rfl
theorem mt_Work_who_works : Meets [noS] 4 1 ir_Work_who_works sp_Work_who_works := by
  rintro args h F E ⟨p, r, l, q, d, rows, s, rfl, W, ll, l30, kf⟩
  refine ⟨rfl, ?_⟩
  rw [show ir_Work_who_works = [.set (.nm 1) (.lst []), .for_ (.tp [(.nm 2), (.nm 3)]) (.enum (.fld (.var 0) "Work" "rows")) ir_wwt, .ret (.ife (.cmp .NotEq (.var 1) (.lst [])) (.idx (.bi .minp [(.var 1)]) (.int 1)) .non)] from rfl]
  show wSs _ _ [some _, none, none, none] h _
  have i41 : ixN 4 1 = some 1 := rfl
  have i42 : ixN 4 2 = some 2 := rfl
  have i21 : ixN 2 1 = some 1 := rfl
  refine wSs_step ?_; simp_arith []
  have X1 : Ext h (h ++ [Ob.lst []]) := .app
  have e1 := new_get (h := h) (o := Ob.lst [])
  have hr : h.length ≤ h.length := Nat.le_refl _
  generalize h ++ [Ob.lst []] = h1 at *
  have W1 := W.ext X1
  refine wSs_step ?_; simp_arith [W1.ob, lk_rows, W1.er]
  rw [enum_z]
  refine wFor_ind (fun rest σ h' => ∃ (A R : List (Row × Nat)) (y2 y3 : Option PV), rows.zipIdx = A ++ R ∧ rest = R.map (fun p => PV.tup [.int p.2, rowV p.1]) ∧ Ext h h' ∧ h'[h.length]? = some (.lst (((A.filter (mayB s)).map keyP).map pairV)) ∧ σ = [some (.ref p), some (.ref h.length), y2, y3]) _ _ _ ⟨[], rows.zipIdx, none, none, rfl, rfl, X1, e1, rfl⟩ ?_ ?_
  · rintro x rest σ h' ⟨A, R, y2, y3, eA, eR, X, en, rfl⟩
    obtain ⟨pr, R, rfl, rfl, rfl⟩ : ∃ a B', R = a :: B' ∧ x = PV.tup [.int a.2, rowV a.1] ∧ rest = B'.map (fun p => PV.tup [.int p.2, rowV p.1]) := by
      cases R with
      | nil => cases eR
      | cons a B' => cases eR; exact ⟨a, B', rfl, rfl, rfl⟩
    obtain ⟨w, i⟩ := pr
    have W' := W.ext X
    have mp : (w, i) ∈ rows.zipIdx := by rw [eA]; simp
    have lk := List.mem_zipIdx_iff_getElem?.mp mp
    have lk : rows[i]? = some w := lk
    have il := (List.getElem?_eq_some_iff.mp lk).1
    have lA := congrArg List.length eA
    rw [List.length_zipIdx, List.length_append, List.length_cons] at lA
    have lf := List.length_filter_le (mayB s) A
    have g1 : s.left[i]? = some (lfA s i) := lf_get (by omega)
    have ixl : ixN s.left.length (i : Int) = some i := ixN_nat (by omega)
    have eA2 : rows.zipIdx = (A ++ [(w, i)]) ++ R := by rw [eA]; simp
    have rv : rowV w = .tup [.int w.1, .int w.2.1, .int w.2.2.1, .int w.2.2.2] := rfl
    refine ⟨⟨W'.er, trivial⟩, _, rfl, fun K hK => ?_⟩
    show wSs _ _ [some _, some _, some (.int (i : Int)), some (rowV w)] _ _
    rw [rv]
    unfold ir_wwt
    by_cases c1 : 0 < lfA s i
    · by_cases c2 : w.2.1 ≤ s.hour
      · have mb : mayB s (w, i) = true := by unfold mayB; rw [decide_eq_true c1, decide_eq_true c2]; rfl
        have lb : (A.filter (mayB s)).length < 16777216 := by omega
        refine wSs_step ?_; simp_arith [W'.ob, lk_left, W'.el, ixl, g1, c1, i41, lk_hour, c2]
        refine wSs_step ?_; simp_arith [en, i42, lb]
        refine hK _ _ ⟨A ++ [(w, i)], R, _, _, eA2, rfl, X.set' (Nat.le_refl _), ?_, rfl⟩
        rw [set_get en, List.filter_append, List.filter_cons, if_pos mb, List.filter_nil, List.map_append, List.map_append]; rfl
      · have mb : mayB s (w, i) = false := by unfold mayB; rw [decide_eq_false c2, Bool.and_false]
        refine wSs_step ?_; simp_arith [W'.ob, lk_left, W'.el, ixl, g1, c1, i41, lk_hour, c2]
        refine hK _ _ ⟨A ++ [(w, i)], R, _, _, eA2, rfl, X, ?_, rfl⟩
        rw [en, List.filter_append, List.filter_cons, if_neg (by rw [mb]; decide), List.filter_nil, List.append_nil]
    · have mb : mayB s (w, i) = false := by unfold mayB; rw [decide_eq_false c1]; rfl
      refine wSs_step ?_; simp_arith [W'.ob, lk_left, W'.el, ixl, g1, c1]
      refine hK _ _ ⟨A ++ [(w, i)], R, _, _, eA2, rfl, X, ?_, rfl⟩
      rw [en, List.filter_append, List.filter_cons, if_neg (by rw [mb]; decide), List.filter_nil, List.append_nil]
  · rintro σ h' ⟨A, R, y2, y3, eA, eR, X, en, rfl⟩
    have : R = [] := by cases R with | nil => rfl | cons _ _ => cases eR
    subst this
    rw [List.append_nil] at eA
    subst eA
    have W' := W.ext X
    refine ⟨⟨W'.er, trivial⟩, ?_⟩
    have en : h'[h.length]? = some (.lst ((someF rows s).map pairV)) := en
    refine wSs_step ?_; simp_arith []
    refine eqW_lnil (app_get en) new_get ?_
    have en2 := app_get (j := [Ob.lst []]) en
    have X2 := X.trans (Ext.app (j := [Ob.lst []]))
    by_cases c : someF rows s = []
    · have wn : whoF rows s = none := by unfold whoF; rw [c, srtP_nil]; rfl
      rw [c]
      simp_arith []
      have := kf _ X2
      rw [wn] at this
      exact this
    · have ie : ((someF rows s).map pairV).isEmpty = false := by
        cases e : someF rows s with
        | nil => exact absurd e c
        | cons _ _ => rfl
      rw [ie]
      simp_arith [en2]
      refine minp_prs c fun m hm lm => ?_
      have wi := who_is (d := m.1) (n := m.2) hm lm
      have fp : pairV m = .tup [.int m.1, .int m.2] := rfl
      rw [fp]
      simp_arith [i21]
      have := kf _ X2
      rw [wi] at this
      exact this
end Law

/-! k38wc: Work: who comes next, a piece put, a step -/
namespace Law
open PySem Z Com
/-- a comprehension with a condition, over things of a kind -/
theorem comp_fil {α : Type} {g : Grd} {t : Tg} {c : Z.Env → Hep → KB → Prop} {e : Z.Env → Hep → KQ → Prop} {σ : Z.Env} {h : Hep} {l : List α} {f f2 : α → PV} {F : List PV → Hep → Prop} (q : α → Bool) (hl : l.length ≤ 1000000) (hg : ∀ h', Ext h h' → grdOk h' g)
    (he : ∀ x ∈ l, ∀ h', Ext h h' → ∃ σ', tgt t (f x) σ = some σ' ∧ (∀ G : KB, (∀ h2, Ext h h2 → G (q x) h2) → c σ' h' G) ∧ (q x = true → ∀ h2, Ext h h2 → ∀ G : KQ, (∀ h3, Ext h h3 → G (f2 x) h3) → e σ' h2 G)) (fin : ∀ h', Ext h h' → F ((l.filter q).map f2) h') : wComp g t c e σ (l.map f) [] h F := by
  have aux : ∀ (l2 : List α) (acc : List PV) (h' : Hep), (∀ x ∈ l2, x ∈ l) → acc.length + l2.length ≤ 1000000 → Ext h h' → (∀ h'', Ext h h'' → F (acc ++ (l2.filter q).map f2) h'') → wComp g t c e σ (l2.map f) acc h' F := by
    intro l2
    induction l2 with
    | nil =>
      intro acc h' _ _ X fin
      have := fin h' X
      rw [List.filter_nil, List.map_nil, List.append_nil] at this
      exact ⟨hg h' X, this⟩
    | cons x l2 ih =>
      intro acc h' sub ln X fin
      obtain ⟨σ', e1, e2, e3⟩ := he x (sub x List.mem_cons_self) h' X
      rw [List.length_cons] at ln
      refine ⟨hg h' X, ?_⟩
      rw [e1]
      refine e2 _ fun h2 X2 => ?_
      cases hq : q x with
      | true =>
        show if true = true then _ else _
        rw [if_pos rfl]
        refine e3 hq h2 X2 _ fun h3 X3 => ⟨by show acc.length < 16777216; omega, ih _ h3 (fun y m => sub y (List.mem_cons_of_mem _ m)) (by rw [List.length_append]; show acc.length + 1 + l2.length ≤ 1000000; omega) X3 fun h'' X'' => ?_⟩
        have := fin h'' X''
        rw [List.filter_cons, if_pos hq, List.map_cons] at this
        rw [List.append_assoc]
        exact this
      | false =>
        show if false = true then _ else _
        rw [if_neg (by decide)]
        refine ih _ h2 (fun y m => sub y (List.mem_cons_of_mem _ m)) (by omega) X2 fun h'' X'' => ?_
        have := fin h'' X''
        rw [List.filter_cons, if_neg (by rw [hq]; decide)] at this
        exact this
  exact aux l [] h (fun _ m => m) (by simpa using hl) .rfl' fun h' X => fin h' X

def Low (p : Nat) (h h' : Hep) : Prop := h.length ≤ h'.length ∧ ∀ (x : Nat) (o : Ob), x < p → h[x]? = some o → h'[x]? = some o
theorem Low.rfl' {p : Nat} {h : Hep} : Low p h h := ⟨Nat.le_refl _, fun _ _ _ e => e⟩
theorem Low.trans {p : Nat} {h1 h2 h3 : Hep} (a : Low p h1 h2) (b : Low p h2 h3) : Low p h1 h3 := ⟨Nat.le_trans a.1 b.1, fun x o l e => b.2 x o l (a.2 x o l e)⟩
theorem Low.ext {p : Nat} {h h' : Hep} (x : Ext h h') : Low p h h' := ⟨x.len, fun _ _ _ e => x _ _ e⟩
theorem Low.set {p x : Nat} {h : Hep} {o : Ob} (l : p ≤ x) : Low p h (h.set x o) := ⟨by rw [List.length_set]; exact Nat.le_refl _, fun y o' ly e => by rw [List.getElem?_set_ne (by omega)]; exact e⟩
def sp_Work_next_come : Z.Spec := fun args h F _ => ∃ (p r l q d : Nat) (rows : Rows) (s : St), args = [.ref p] ∧ WkO h p r l q d rows s ∧ rows.length ≤ 30 ∧ ∀ h', Ext h h' → F (opV (nextF rows s.hour)) h'
theorem mt_Work_next_come : Meets [noS] 2 1 ir_Work_next_come sp_Work_next_come := by
  rintro args h F E ⟨p, r, l, q, d, rows, s, rfl, W, l30, kf⟩
  refine ⟨rfl, ?_⟩
  unfold ir_Work_next_come
  show wSs _ _ [some _, none] h _
  have i41 : ixN 4 1 = some 1 := rfl
  refine wSs_step ?_; simp_arith [W.ob, lk_rows, W.er]
  refine comp_fil (f := rowV) (f2 := fun w => PV.int w.2.1) (lateB s.hour) (by omega) (fun h' X => ⟨X _ _ W.er, trivial⟩) (fun w hw h' X => ⟨_, rfl, fun G hG => ?_, fun _ h2 X2 G hG => ?_⟩) fun h' X => ?_
  · have W' := W.ext X
    have rv : rowV w = .tup [.int w.1, .int w.2.1, .int w.2.2.1, .int w.2.2.2] := rfl
    rw [rv]
    simp_arith [W'.ob, i41, lk_hour]
    exact hG _ X
  · have rv : rowV w = .tup [.int w.1, .int w.2.1, .int w.2.2.1, .int w.2.2.2] := rfl
    rw [rv]
    simp_arith [i41]
    exact hG _ X2
  · have e2 : (rows.filter (lateB s.hour)).map (fun w => PV.int w.2.1) = (comeL rows s.hour).map PV.int := by unfold comeL; rw [List.map_map]; rfl
    rw [e2]
    simp_arith [new_get]
    refine ⟨comeL rows s.hour, intsOf_map _, ?_⟩
    have := kf _ (X.trans (Ext.app (j := [Ob.lst ((comeL rows s.hour).map PV.int)])))
    unfold nextF at this
    by_cases c : comeL rows s.hour = []
    · rw [if_pos c] at this
      rw [if_pos c]
      exact this
    · rw [if_neg c] at this
      rw [if_neg c]
      first
      | exact this
      | (rw [if_neg (by decide)]; exact this)
def sp_Work_put : Z.Spec := fun args h F _ => ∃ (p r l q d : Nat) (rows : Rows) (s : St) (n b : Int), args = [.ref p, .int n, .int b] ∧ WkO h p r l q d rows s ∧ s.pcs.length < 1000000 ∧ ∀ h', WkO h' p r l q d rows { s with pcs := putF s n b } → Low p h h' → F .non h'
theorem WkO.setq {h : Hep} {p r l q d : Nat} {rows : Rows} {s : St} {P : List Pc} (W : WkO h p r l q d rows s) : WkO (h.set q (Ob.lst (P.map pcV))) p r l q d rows { s with pcs := P } := by
  obtain ⟨a1, a2, a3, a4, a5, b1, b2, b3, b4⟩ := W
  exact ⟨by rw [List.getElem?_set_ne (by omega)]; exact a1, by rw [List.getElem?_set_ne (by omega)]; exact a2, by rw [List.getElem?_set_ne (by omega)]; exact a3, set_get a4, by rw [List.getElem?_set_ne (by omega)]; exact a5, b1, b2, b3, b4⟩
theorem mt_Work_put : Meets [noS] 3 3 ir_Work_put sp_Work_put := by
  rintro args h F E ⟨p, r, l, q, d, rows, s, n, b, rfl, W, lp, kf⟩
  refine ⟨rfl, ?_⟩
  unfold ir_Work_put
  show wSs _ _ [some _, some _, some _] h _
  have i30 : ixN 3 0 = some 0 := rfl
  have i31 : ixN 3 1 = some 1 := rfl
  have i32 : ixN 3 2 = some 2 := rfl
  have lb : s.pcs.length < 16777216 := by omega
  have X1 : Ext h (h ++ [Ob.lst []]) := .app
  have W1 := W.ext X1
  have lq : p ≤ q := by have := W.pl; have := W.lq; omega
  refine wSs_step ?_
  simp_arith [W.ob, lk_pieces]
  refine eqW_lnil (app_get W.eq) new_get ?_
  generalize h ++ [Ob.lst []] = h1 at *
  by_cases z : s.pcs = []
  · have pf : putF s n b = s.pcs ++ [(n, s.hour, b)] := by unfold putF; rw [z]; rfl
    have eq1 := W1.eq
    rw [z] at eq1
    rw [z]
    simp_arith []
    refine wSs_step ?_; simp_arith [W1.ob, lk_pieces, lk_hour, eq1]
    have := kf _ (W1.setq (P := putF s n b)) ((Low.ext X1).trans (Low.set lq))
    rw [pf, z] at this
    exact this
  · have l1 : 1 ≤ s.pcs.length := by
      cases e : s.pcs with
      | nil => exact absurd e z
      | cons _ _ => rw [List.length_cons]; omega
    have ij := ixN_last (n := s.pcs.length) (by omega)
    have ie : ((s.pcs.map pcV).isEmpty) = false := by
      cases e : s.pcs with
      | nil => exact absurd e z
      | cons _ _ => rfl
    obtain ⟨k, gk⟩ : ∃ k, s.pcs[s.pcs.length - 1]? = some k := ⟨_, List.getElem?_eq_getElem (show s.pcs.length - 1 < s.pcs.length by omega)⟩
    have fp : pcV k = .tup [.int k.1, .int k.2.1, .int k.2.2] := rfl
    have pf : putF s n b = if k.1 = n ∧ k.2.2 = s.hour then s.pcs.set (s.pcs.length - 1) (n, k.2.1, b) else s.pcs ++ [(n, s.hour, b)] := by unfold putF; rw [gk]
    have app : ¬ (k.1 = n ∧ k.2.2 = s.hour) → F .non (h1.set q (Ob.lst (s.pcs.map pcV ++ [.tup [.int n, .int s.hour, .int b]]))) := fun c => by
      have := kf _ (W1.setq (P := putF s n b)) ((Low.ext X1).trans (Low.set lq))
      rw [pf, if_neg c, List.map_append] at this
      exact this
    rw [ie]
    by_cases c1 : k.1 = n
    · by_cases c2 : k.2.2 = s.hour
      · have c1' : (k.1 == n) = true := by simpa using c1
        have c2' : (k.2.2 == s.hour) = true := by simpa using c2
        simp_arith [W1.ob, lk_pieces, lk_hour, W1.eq, ij, gk, fp, i30, i32, c1', c2', c1, c2]
        refine wSs_step ?_; simp_arith [W1.ob, lk_pieces, W1.eq, ij, gk, fp, i31]
        have := kf _ (W1.setq (P := putF s n b)) ((Low.ext X1).trans (Low.set lq))
        rw [pf, if_pos ⟨c1, c2⟩, List.map_set] at this
        exact this
      · have c1' : (k.1 == n) = true := by simpa using c1
        have c2' : (k.2.2 == s.hour) = false := by simpa using c2
        simp_arith [W1.ob, lk_pieces, lk_hour, W1.eq, ij, gk, fp, i30, i32, c1', c2', c1, c2]
        refine wSs_step ?_; simp_arith [W1.ob, lk_pieces, lk_hour, W1.eq, lb]
        exact app fun c => c2 c.2
    · have c1' : (k.1 == n) = false := by simpa using c1
      simp_arith [W1.ob, lk_pieces, lk_hour, W1.eq, ij, gk, fp, i30, i32, c1', c1]
      refine wSs_step ?_; simp_arith [W1.ob, lk_pieces, lk_hour, W1.eq, lb]
      exact app fun c => c1 c.1
end Law

/-! k38wd: Work: a step; a new one -/
namespace Law
open PySem Z Com
theorem WkO.setl {h : Hep} {p r l q d : Nat} {rows : Rows} {s : St} {P : List Int} (W : WkO h p r l q d rows s) : WkO (h.set l (Ob.lst (P.map PV.int))) p r l q d rows { s with left := P } := by
  obtain ⟨a1, a2, a3, a4, a5, b1, b2, b3, b4⟩ := W
  exact ⟨by rw [List.getElem?_set_ne (by omega)]; exact a1, by rw [List.getElem?_set_ne (by omega)]; exact a2, set_get a3, by rw [List.getElem?_set_ne (by omega)]; exact a4, by rw [List.getElem?_set_ne (by omega)]; exact a5, b1, b2, b3, b4⟩
theorem WkO.setd {h : Hep} {p r l q d : Nat} {rows : Rows} {s : St} {P : List Int} (W : WkO h p r l q d rows s) : WkO (h.set d (Ob.lst (P.map PV.int))) p r l q d rows { s with done := P } := by
  obtain ⟨a1, a2, a3, a4, a5, b1, b2, b3, b4⟩ := W
  exact ⟨by rw [List.getElem?_set_ne (by omega)]; exact a1, by rw [List.getElem?_set_ne (by omega)]; exact a2, by rw [List.getElem?_set_ne (by omega)]; exact a3, by rw [List.getElem?_set_ne (by omega)]; exact a4, set_get a5, b1, b2, b3, b4⟩
theorem WkO.seth {h : Hep} {p r l q d : Nat} {rows : Rows} {s : St} {t : Int} (W : WkO h p r l q d rows s) : WkO (h.set p (Ob.ins (Str.ofString "Work") (wkFs r l q d t))) p r l q d rows { s with hour := t } := by
  obtain ⟨a1, a2, a3, a4, a5, b1, b2, b3, b4⟩ := W
  exact ⟨set_get a1, by rw [List.getElem?_set_ne (by omega)]; exact a2, by rw [List.getElem?_set_ne (by omega)]; exact a3, by rw [List.getElem?_set_ne (by omega)]; exact a4, by rw [List.getElem?_set_ne (by omega)]; exact a5, b1, b2, b3, b4⟩
def sp_Work_go_on : Z.Spec := fun args h F _ => ∃ (p r l q d : Nat) (rows : Rows) (s : St), args = [.ref p] ∧ WkO h p r l q d rows s ∧ InvS rows s ∧ rows.length ≤ 30 ∧ s.pcs.length < 1000000 ∧ 0 < maxL s.left ∧ ∀ h', WkO h' p r l q d rows (stepF rows s) → Low p h h' → F .non h'
abbrev GGo : List Z.Spec := [sp_Work_who_works, sp_Work_next_come, noS, sp_Work_put]
def ir_go2 : List Sm := [.set (.nm 3) (.bin .Add (.fld (.var 0) "Work" "hour") (.idx (.fld (.var 0) "Work" "left") (.var 1))),
  .set (.nm 2) (.ife (.cmp .Is (.var 2) .non) (.var 3) (.bi .min2 [(.var 3), (.var 2)])),
  .augi (.fld (.var 0) "Work" "left") (.var 1) .Sub (.bin .Sub (.var 2) (.fld (.var 0) "Work" "hour")),
  .exp (.mth 3 "Work" "put" (.var 0) [(.var 1), (.var 2)]),
  .stf (.var 0) "Work" "hour" (.var 2),
  .ife (.cmp .Eq (.idx (.fld (.var 0) "Work" "left") (.var 1)) (.int 0)) [.sto (.fld (.var 0) "Work" "done_at") (.var 1) (.var 2)] []]
theorem go2_ok {p r l q d i : Nat} {rows : Rows} {s : St} {h : Hep} {D : Dz} (W : WkO h p r l q d rows s) (il : i < rows.length) (ll : s.left.length = rows.length) (dl : s.done.length = rows.length) (lp : s.pcs.length < 1000000)
    (k : ∀ σ h', WkO h' p r l q d rows { left := s.left.set i (lfA s i - (behF rows s i - s.hour)), hour := behF rows s i, pcs := putF s i (behF rows s i), done := if lfA s i - (behF rows s i - s.hour) = 0 then s.done.set i (behF rows s i) else s.done } → Low p h h' → D.nx σ h') :
    wSs GGo ir_go2 [some (.ref p), some (.int (i : Int)), some (opV (nextF rows s.hour)), none] h D := by
  unfold ir_go2
  have lpl : p ≤ l := by have := W.pl; omega
  have lpd : p ≤ d := by have := W.pl; have := W.lq; have := W.qd; omega
  have ixl : ixN s.left.length (i : Int) = some i := ixN_nat (by omega)
  have ixd : ixN s.done.length (i : Int) = some i := ixN_nat (by omega)
  have g1 : s.left[i]? = some (lfA s i) := lf_get (by omega)
  refine wSs_step ?_; simp_arith [W.ob, lk_left, lk_hour, W.el, ixl, g1]
  have rest : ∀ b y3, b = behF rows s i → wSs GGo [.augi (.fld (.var 0) "Work" "left") (.var 1) .Sub (.bin .Sub (.var 2) (.fld (.var 0) "Work" "hour")), .exp (.mth 3 "Work" "put" (.var 0) [(.var 1), (.var 2)]), .stf (.var 0) "Work" "hour" (.var 2), .ife (.cmp .Eq (.idx (.fld (.var 0) "Work" "left") (.var 1)) (.int 0)) [.sto (.fld (.var 0) "Work" "done_at") (.var 1) (.var 2)] []] [some (.ref p), some (.int (i : Int)), some (.int b), y3] h D := by
    intro b y3 eb
    rw [← eb] at k
    have i0 : (0 : Int) ≤ (i : Int) := by omega
    have sub : ¬ (Operator.Sub = Operator.Add) := by decide
    refine wSs_step ?_
    simp_arith [W.ob, lk_left, lk_hour, W.el, i0, g1, ixl]
    have W1 := W.setl (P := s.left.set i (lfA s i - (b - s.hour)))
    have L1 : Low p h (h.set l (Ob.lst ((s.left.set i (lfA s i - (b - s.hour))).map PV.int))) := .set lpl
    refine ⟨lfA s i, rfl, ?_⟩
    rw [← List.map_set]
    generalize h.set l (Ob.lst ((s.left.set i (lfA s i - (b - s.hour))).map PV.int)) = h1 at *
    refine wSs_step ?_; simp_arith [W1.ob, lk_put]
    refine ⟨p, r, l, q, d, rows, _, i, b, rfl, W1, lp, fun h2 W2 L2 => ?_⟩
    have W3 := W2.seth (t := b)
    refine wSs_step ?_; simp_arith [W2.ob, wkFs_len, put_hour]
    have L3 := (L1.trans L2).trans (Low.set (o := Ob.ins (Str.ofString "Work") (wkFs r l q d b)) (h := h2) (Nat.le_refl p))
    generalize h2.set p (Ob.ins (Str.ofString "Work") (wkFs r l q d b)) = h3 at *
    have pe : putF { s with left := s.left.set i (lfA s i - (b - s.hour)) } i b = putF s i b := rfl
    rw [pe] at W3
    have gl : (s.left.set i (lfA s i - (b - s.hour)))[i]? = some (lfA s i - (b - s.hour)) := List.getElem?_set_self (by omega)
    have ixl' : ixN (s.left.set i (lfA s i - (b - s.hour))).length (i : Int) = some i := by rw [List.length_set]; exact ixl
    have el3 := W3.el
    refine wSs_step ?_
    simp_arith [W3.ob, lk_left, el3, ixl', gl]
    by_cases c : lfA s i - (b - s.hour) = 0
    · rw [if_pos c] at k
      simp_arith [c]
      refine wSs_step ?_; simp_arith [W3.ob, lk_done, W3.ed, ixd]
      have := k [some (.ref p), some (.int (i : Int)), some (.int b), y3] _ (W3.setd (P := s.done.set i b)) (L3.trans (Low.set lpd))
      rw [List.map_set] at this
      exact this
    · rw [if_neg c] at k
      simp_arith [c]
      exact k _ _ W3 L3
  cases e : nextF rows s.hour with
  | none =>
    have b : s.hour + lfA s i = behF rows s i := by unfold behF; rw [e, Int.toNat_natCast]
    unfold opV
    refine wSs_step ?_; simp_arith []
    exact rest _ _ b
  | some v =>
    have b : min (s.hour + lfA s i) v = behF rows s i := by unfold behF; rw [e, Int.toNat_natCast]
    unfold opV
    refine wSs_step ?_; simp_arith []
    exact rest _ _ b
theorem mt_Work_go_on : Meets GGo 4 1 ir_Work_go_on sp_Work_go_on := by
  rintro args h F E ⟨p, r, l, q, d, rows, s, rfl, W, I, l30, lp, g, kf⟩
  refine ⟨rfl, ?_⟩
  rw [show ir_Work_go_on = .set (.nm 1) (.mth 0 "Work" "who_works" (.var 0) []) :: .set (.nm 2) (.mth 1 "Work" "next_come" (.var 0) []) :: .ife (.cmp .Is (.var 1) .non) [.stf (.var 0) "Work" "hour" (.var 2), .retN] [] :: ir_go2 from rfl]
  show wSs _ _ [some _, none, none, none] h _
  refine wSs_step ?_; simp_arith [W.ob, lk_who]
  refine ⟨p, r, l, q, d, rows, s, rfl, W, I.ll, l30, fun h1 X1 => ?_⟩
  try simp_arith []
  have W1 := W.ext X1
  refine wSs_step ?_; simp_arith [W1.ob, lk_next]
  refine ⟨p, r, l, q, d, rows, s, rfl, W1, l30, fun h2 X2 => ?_⟩
  try simp_arith []
  have W2 := W1.ext X2
  have L2 : Low p h h2 := (Low.ext X1).trans (Low.ext X2)
  cases e : whoF rows s with
  | none =>
    obtain ⟨b, eb⟩ := come_some I g e
    rw [eb]
    unfold opV
    refine wSs_step ?_; simp_arith []
    refine wSs_step ?_; simp_arith [W2.ob, wkFs_len, put_hour]
    refine wSs_step ?_; simp_arith []
    have st := step_none e
    rw [eb] at st
    refine kf _ ?_ (L2.trans (Low.set (Nat.le_refl p)))
    rw [st]
    exact W2.seth
  | some n =>
    obtain ⟨i, w, rfl, il, er, h1', h2', el⟩ := who_at I e
    rw [show opV (some ((i : Nat) : Int)) = .int i from rfl]
    refine wSs_step ?_; simp_arith []
    refine go2_ok W2 il I.ll I.dl lp fun σ h' W' L' => ?_
    refine kf _ ?_ (L2.trans L')
    rw [step_some e]
    simp only [Int.toNat_natCast]
    exact W'
theorem flat_rep (n : Nat) (x : PV) : (List.replicate n [x]).flatten = List.replicate n x := by
  induction n with
  | zero => rfl
  | succ n ih => rw [List.replicate_succ, List.flatten_cons, ih]; rfl
def sp_Work___init__ : Z.Spec := fun args h F _ => ∃ (p r : Nat) (rows : Rows), args = [.ref p, .ref r] ∧ h[p]? = some (.ins (Str.ofString "Work") []) ∧ h[r]? = some (.lst (rows.map rowV)) ∧ r < p ∧ 1 ≤ rows.length ∧ rows.length ≤ 30 ∧ ∀ l q d h', WkO h' p r l q d rows (st0 rows) → Low p h h' → F .non h'
theorem mt_Work___init__ : Meets [noS] 3 2 ir_Work___init__ sp_Work___init__ := by
  rintro args h F E ⟨p, r, rows, rfl, ep, er, rp, l1, l30, kf⟩
  refine ⟨rfl, ?_⟩
  unfold ir_Work___init__
  have i40 : ixN 4 0 = some 0 := rfl
  have b0 : (0 : Nat) < 1000 := by decide
  have b1 : (1 : Nat) < 1000 := by decide
  have b2 : (2 : Nat) < 1000 := by decide
  have b3 : (3 : Nat) < 1000 := by decide
  have b4 : (4 : Nat) < 1000 := by decide
  have n12 : ¬ (Str.ofString "rows" = Str.ofString "left") := by decide
  have n13 : ¬ (Str.ofString "rows" = Str.ofString "hour") := by decide
  have n14 : ¬ (Str.ofString "rows" = Str.ofString "pieces") := by decide
  have n15 : ¬ (Str.ofString "rows" = Str.ofString "done_at") := by decide
  have n23 : ¬ (Str.ofString "left" = Str.ofString "hour") := by decide
  have n24 : ¬ (Str.ofString "left" = Str.ofString "pieces") := by decide
  have n25 : ¬ (Str.ofString "left" = Str.ofString "done_at") := by decide
  have n34 : ¬ (Str.ofString "hour" = Str.ofString "pieces") := by decide
  have n35 : ¬ (Str.ofString "hour" = Str.ofString "done_at") := by decide
  have n45 : ¬ (Str.ofString "pieces" = Str.ofString "done_at") := by decide
  show wSs _ _ [some _, some _, none] h _
  have ph := lt_of_get ep
  refine wSs_step ?_; simp_arith [ep, b0]
  -- rows
  have L1 : Low p h (h.set p (Ob.ins (Str.ofString "Work") [(Str.ofString "rows", .ref r)])) := .set (Nat.le_refl p)
  have e1 := set_get (o' := Ob.ins (Str.ofString "Work") [(Str.ofString "rows", .ref r)]) ep
  have er1 := L1.2 _ _ rp er
  have l1' : (h.set p (Ob.ins (Str.ofString "Work") [(Str.ofString "rows", .ref r)])).length = h.length := List.length_set
  generalize h.set p (Ob.ins (Str.ofString "Work") [(Str.ofString "rows", .ref r)]) = h1 at *
  -- left
  refine wSs_step ?_; simp_arith [er1]
  refine comp_fil (f := rowV) (f2 := fun w => PV.int w.1) (fun _ => true) (by omega) (fun h' X => ⟨X _ _ er1, trivial⟩) (fun w hw h' X => ⟨_, rfl, fun G hG => hG _ X, fun _ h2 X2 G hG => ?_⟩) fun h2 X2 => ?_
  · have rv : rowV w = .tup [.int w.1, .int w.2.1, .int w.2.2.1, .int w.2.2.2] := rfl
    rw [rv]
    simp_arith [i40]
    exact hG _ X2
  · have e2 : (rows.filter fun _ => true).map (fun w => PV.int w.1) = (rows.map (·.1)).map PV.int := by rw [List.filter_eq_self.mpr fun _ _ => rfl, List.map_map]; rfl
    rw [e2]
    have el2 := new_get (h := h2) (o := Ob.lst ((rows.map (·.1)).map PV.int))
    have ep2 := app_get (j := [Ob.lst ((rows.map (·.1)).map PV.int)]) (X2 _ _ e1)
    have L2 : Low p h (h2 ++ [Ob.lst ((rows.map (·.1)).map PV.int)]) := L1.trans (Low.ext (X2.trans .app))
    have pl : p < h2.length := by have := X2.len; omega
    generalize hl : h2.length = l at *
    generalize h2 ++ [Ob.lst ((rows.map (·.1)).map PV.int)] = h3 at *
    simp_arith [ep2, b1, n12]
    have e3 := set_get (o' := Ob.ins (Str.ofString "Work") [(Str.ofString "rows", .ref r), (Str.ofString "left", .ref l)]) ep2
    have el3 : (h3.set p (Ob.ins (Str.ofString "Work") [(Str.ofString "rows", .ref r), (Str.ofString "left", .ref l)]))[l]? = _ := (List.getElem?_set_ne (by omega)).trans el2
    have L3 := L2.trans (Low.set (o := Ob.ins (Str.ofString "Work") [(Str.ofString "rows", .ref r), (Str.ofString "left", .ref l)]) (Nat.le_refl p))
    generalize h3.set p (Ob.ins (Str.ofString "Work") [(Str.ofString "rows", .ref r), (Str.ofString "left", .ref l)]) = h4 at *
    -- hour
    refine wSs_step ?_; simp_arith [e3, b2, n13, n23]
    have e4 := set_get (o' := Ob.ins (Str.ofString "Work") [(Str.ofString "rows", .ref r), (Str.ofString "left", .ref l), (Str.ofString "hour", .int 0)]) e3
    have el4 : (h4.set p (Ob.ins (Str.ofString "Work") [(Str.ofString "rows", .ref r), (Str.ofString "left", .ref l), (Str.ofString "hour", .int 0)]))[l]? = _ := (List.getElem?_set_ne (by omega)).trans el3
    have L4 := L3.trans (Low.set (o := Ob.ins (Str.ofString "Work") [(Str.ofString "rows", .ref r), (Str.ofString "left", .ref l), (Str.ofString "hour", .int 0)]) (Nat.le_refl p))
    generalize h4.set p (Ob.ins (Str.ofString "Work") [(Str.ofString "rows", .ref r), (Str.ofString "left", .ref l), (Str.ofString "hour", .int 0)]) = h5 at *
    have ll5 := lt_of_get el4
    -- pieces
    have e5 := app_get (j := [Ob.lst []]) e4
    have eq5 := new_get (h := h5) (o := Ob.lst [])
    have el5 := app_get (j := [Ob.lst []]) el4
    have L5 := L4.trans (Low.ext (Ext.app (j := [Ob.lst []])))
    refine wSs_step ?_; simp_arith [e5, b3, n14, n24, n34]
    generalize hq : h5.length = q at *
    generalize h5 ++ [Ob.lst []] = h6 at *
    have e6 := set_get (o' := Ob.ins (Str.ofString "Work") [(Str.ofString "rows", .ref r), (Str.ofString "left", .ref l), (Str.ofString "hour", .int 0), (Str.ofString "pieces", .ref q)]) e5
    have el6 : (h6.set p (Ob.ins (Str.ofString "Work") [(Str.ofString "rows", .ref r), (Str.ofString "left", .ref l), (Str.ofString "hour", .int 0), (Str.ofString "pieces", .ref q)]))[l]? = _ := (List.getElem?_set_ne (by omega)).trans el5
    have eq6 : (h6.set p (Ob.ins (Str.ofString "Work") [(Str.ofString "rows", .ref r), (Str.ofString "left", .ref l), (Str.ofString "hour", .int 0), (Str.ofString "pieces", .ref q)]))[q]? = _ := (List.getElem?_set_ne (by omega)).trans eq5
    have L6 := L5.trans (Low.set (o := Ob.ins (Str.ofString "Work") [(Str.ofString "rows", .ref r), (Str.ofString "left", .ref l), (Str.ofString "hour", .int 0), (Str.ofString "pieces", .ref q)]) (Nat.le_refl p))
    generalize h6.set p (Ob.ins (Str.ofString "Work") [(Str.ofString "rows", .ref r), (Str.ofString "left", .ref l), (Str.ofString "hour", .int 0), (Str.ofString "pieces", .ref q)]) = h7 at *
    have lq7 := lt_of_get eq6
    have er7 := L6.2 _ _ rp er
    -- done_at
    have fr := flat_rep rows.length (PV.int 0)
    have er8 := app_get (j := [Ob.lst [PV.int 0]]) er7
    have e7 := app_get (j := [Ob.lst (List.replicate rows.length (PV.int 0))]) (app_get (j := [Ob.lst [PV.int 0]]) e6)
    refine wSs_step ?_; simp_arith [er8, new_get, fr]
    refine ⟨by omega, by omega, by omega, ?_⟩
    have el7 := app_get (j := [Ob.lst (List.replicate rows.length (PV.int 0))]) (app_get (j := [Ob.lst [PV.int 0]]) el6)
    have eq7 := app_get (j := [Ob.lst (List.replicate rows.length (PV.int 0))]) (app_get (j := [Ob.lst [PV.int 0]]) eq6)
    have er9 := app_get (j := [Ob.lst (List.replicate rows.length (PV.int 0))]) er8
    have ed7 := new_get (h := h7 ++ [Ob.lst [PV.int 0]]) (o := Ob.lst (List.replicate rows.length (PV.int 0)))
    have L7 := L6.trans (Low.ext (Ext.app.trans (Ext.app (h := h7 ++ [Ob.lst [PV.int 0]]) (j := [Ob.lst (List.replicate rows.length (PV.int 0))]))))
    have qd : q < (h7 ++ [Ob.lst [PV.int 0]]).length := by rw [List.length_append]; omega
    generalize (h7 ++ [Ob.lst [PV.int 0]]).length = d at *
    generalize h7 ++ [Ob.lst [PV.int 0]] ++ [Ob.lst (List.replicate rows.length (PV.int 0))] = h8 at *
    simp_arith [e7, b4, n15, n25, n35, n45]
    refine kf l q d _ ⟨set_get e7, by rw [List.getElem?_set_ne (by omega)]; exact er9, by rw [List.getElem?_set_ne (by omega)]; exact el7, by rw [List.getElem?_set_ne (by omega)]; exact eq7, ?_, rp, pl, by omega, qd⟩ (L7.trans (Low.set (Nat.le_refl p)))
    rw [List.getElem?_set_ne (by omega), ed7]
    show _ = some (Ob.lst ((List.replicate rows.length (0 : Int)).map PV.int))
    rw [List.map_replicate]
end Law

/-! k38we: crowd_to, parted -/
namespace Law
open PySem Z Com
def crowdS (rows : Rows) (due : Int) (st : Int × List Int) (p : Pc) : Int × List Int := if p.2.2 = st.1 ∧ dueR rows p.1 ≤ due then (p.2.1, if p.1 ∈ st.2 then st.2 else st.2 ++ [p.1]) else st
def crowdF (rows : Rows) (P : List Pc) (last e : Int) : List Int := (P.reverse.foldl (crowdS rows (dueR rows last)) (e, [])).2
theorem crowd_keep {rows : Rows} {due : Int} : ∀ {l : List Pc} {st : Int × List Int}, st.2 ≠ [] → (l.foldl (crowdS rows due) st).2 ≠ []
  | [], _, h => h
  | p :: l, st, h => by
    rw [List.foldl_cons]
    refine crowd_keep ?_
    unfold crowdS
    split
    · show (if p.1 ∈ st.2 then st.2 else st.2 ++ [p.1]) ≠ []
      split
      · exact h
      · simp
    · exact h
theorem crowd_ne {rows : Rows} {due e : Int} : ∀ {l : List Pc}, (∃ p ∈ l, p.2.2 = e ∧ dueR rows p.1 ≤ due) → (l.foldl (crowdS rows due) (e, [])).2 ≠ []
  | [], h => by obtain ⟨p, m, _⟩ := h; cases m
  | p :: l, h => by
    rw [List.foldl_cons]
    by_cases c : p.2.2 = e ∧ dueR rows p.1 ≤ due
    · refine crowd_keep ?_
      unfold crowdS
      rw [if_pos c]
      show (if p.1 ∈ ([] : List Int) then [] else [] ++ [p.1]) ≠ []
      simp
    · have : crowdS rows due (e, []) p = (e, []) := by unfold crowdS; rw [if_neg c]
      rw [this]
      obtain ⟨q, m, a⟩ := h
      rcases List.mem_cons.mp m with rfl | m
      · exact absurd a c
      · exact crowd_ne ⟨q, m, a⟩
theorem crowd_nd {rows : Rows} {due : Int} {n : Int} : ∀ {l : List Pc} {st : Int × List Int}, (∀ p ∈ l, 0 ≤ p.1 ∧ p.1 < n) → st.2.Nodup → (∀ i ∈ st.2, 0 ≤ i ∧ i < n) → (l.foldl (crowdS rows due) st).2.Nodup ∧ ∀ i ∈ (l.foldl (crowdS rows due) st).2, 0 ≤ i ∧ i < n
  | [], _, _, h, k => ⟨h, k⟩
  | p :: l, st, hp, h, k => by
    rw [List.foldl_cons]
    have hq := hp p List.mem_cons_self
    unfold crowdS
    split
    · refine crowd_nd (fun q hq => hp q (List.mem_cons_of_mem _ hq)) ?_ ?_
      · show (if p.1 ∈ st.2 then st.2 else st.2 ++ [p.1]).Nodup
        split
        · exact h
        · rename_i c
          rw [List.nodup_append]
          exact ⟨h, List.pairwise_singleton _ _, fun a ha b hb e => c (by rw [List.mem_singleton.mp hb] at e; rw [← e]; exact ha)⟩
      · intro i hi
        have hi : i ∈ (if p.1 ∈ st.2 then st.2 else st.2 ++ [p.1]) := hi
        split at hi
        · exact k i hi
        · rcases List.mem_append.mp hi with hi | hi
          · exact k i hi
          · rw [List.mem_singleton.mp hi]; exact hq
    · exact crowd_nd (fun q hq => hp q (List.mem_cons_of_mem _ hq)) h k
theorem nodup_sub_len : ∀ {a b : List Int}, a.Nodup → (∀ x ∈ a, x ∈ b) → a.length ≤ b.length
  | [], b, _, _ => Nat.zero_le _
  | x :: a, b, nd, sb => by
    have n := List.nodup_cons.mp nd
    have hx := sb x List.mem_cons_self
    have h := nodup_sub_len (a := a) (b := b.erase x) n.2 fun y hy => (List.mem_erase_of_ne (fun (e : y = x) => n.1 (e ▸ hy))).mpr (sb y (List.mem_cons_of_mem _ hy))
    have hl := List.length_erase_of_mem hx
    have hp := List.length_pos_of_mem hx
    rw [List.length_cons]
    omega
def trueD (L : List Int) : List (Ky × PV) := L.map fun n => (.one (.inl n), .bl true)
theorem trueD_get (n : Int) : ∀ L : List Int, (dget (.one (.inl n)) (trueD L)).isSome = decide (n ∈ L)
  | [] => by simp [trueD, dget]
  | m :: L => by
    show (if Ky.one (.inl m) = Ky.one (.inl n) then some (PV.bl true) else dget (.one (.inl n)) (trueD L)).isSome = _
    by_cases c : m = n
    · subst c
      rw [if_pos rfl]; simp
    · rw [if_neg (fun z => c (by injection z with z; injection z)), trueD_get n L]
      simp [Ne.symm c]
theorem trueD_put (n : Int) (L : List Int) : dput (.one (.inl n)) (.bl true) (trueD L) = trueD (if n ∈ L then L else L ++ [n]) := by
  unfold dput
  rw [trueD_get]
  by_cases c : n ∈ L
  · rw [if_pos (decide_eq_true c), if_pos c]
    unfold trueD
    rw [List.map_map]
    refine List.map_congr_left fun m _ => ?_
    show (if Ky.one (Sum.inl m) = Ky.one (Sum.inl n) then (Ky.one (Sum.inl m), PV.bl true) else (Ky.one (Sum.inl m), PV.bl true)) = _
    split <;> rfl
  · rw [if_neg (by rw [decide_eq_false c]; decide), if_neg c]
    unfold trueD
    rw [List.map_append]; rfl
theorem trueD_kind (n : Int) (L : List Int) : kindOk (.one (.inl n)) (trueD L) = true := by cases L <;> rfl
def sp_crowd_to : Z.Spec := fun args h F _ => ∃ (r q : Nat) (rows : Rows) (P : List Pc) (last : Nat) (e : Int), args = [.ref r, .ref q, .int last, .int e] ∧ h[r]? = some (.lst (rows.map rowV)) ∧ h[q]? = some (.lst (P.map pcV)) ∧ rows.length ≤ 30 ∧ last < rows.length ∧ (∀ p ∈ P, 0 ≤ p.1 ∧ p.1 < (rows.length : Int)) ∧ (∃ p ∈ P, p.2.2 = e ∧ p.1 = (last : Int)) ∧
  ∀ (ms : List Int) (o : Nat) (h' : Hep), Ext h h' → h.length ≤ o → h'[o]? = some (.lst (ms.map PV.int)) → ms.Perm (crowdF rows P last e) → ms.Pairwise (· ≤ ·) → F (.ref o) h'
def ir_ctt : List Sm := [.ife (.and (.cmp .Eq (.var 9) (.var 5)) (.cmp .LtE (.idx (.idx (.var 0) (.var 7)) (.int 2)) (.var 4))) [.sto (.var 6) (.var 7) (.bl true), .set (.nm 5) (.var 8)] []]
theorem mt_crowd_to : Meets [] 10 4 ir_crowd_to sp_crowd_to := by
  rintro args h F E ⟨r, q, rows, P, last, e, rfl, er, eq, l30, ll, hP, hx, kf⟩
  refine ⟨rfl, ?_⟩
  rw [show ir_crowd_to = [.set (.nm 4) (.idx (.idx (.var 0) (.var 2)) (.int 2)), .set (.nm 5) (.var 3), .set (.nm 6) .dct, .for_ (.tp [(.nm 7), (.nm 8), (.nm 9)]) (.rvs (.var 1)) ir_ctt, .ret (.bi .sortedk [(.var 6)])] from rfl]
  show wSs _ _ [some _, some _, some _, some _, none, none, none, none, none, none] h _
  have i42 : ixN 4 2 = some 2 := rfl
  have at_ : ∀ {i : Int}, 0 ≤ i → i < rows.length → ixN rows.length i = some i.toNat ∧ rows[i.toNat]? = some (atR rows i) := fun a b => ⟨ixN_int a b, rows_get a b⟩
  obtain ⟨a1, a2⟩ := at_ (i := (last : Int)) (by omega) (by omega)
  have fr : rowV (atR rows last) = .tup [.int (atR rows last).1, .int (atR rows last).2.1, .int (dueR rows last), .int (atR rows last).2.2.2] := rfl
  rw [Int.toNat_natCast] at a1 a2
  refine wSs_step ?_; simp_arith [er, a1, a2, fr, i42]
  refine wSs_step ?_; simp_arith []
  refine wSs_step ?_; simp_arith []
  have X1 : Ext h (h ++ [Ob.dic []]) := .app
  have e1 := new_get (h := h) (o := Ob.dic [])
  generalize h ++ [Ob.dic []] = h1 at *
  refine wSs_step ?_; simp_arith [X1 _ _ eq]
  rw [← List.map_reverse]
  have hPr : ∀ p ∈ P.reverse, 0 ≤ p.1 ∧ p.1 < (rows.length : Int) := fun p hp => hP p (List.mem_reverse.mp hp)
  refine wFor_ind (fun rest σ h' => ∃ (A R : List Pc) (y7 y8 y9 : Option PV), P.reverse = A ++ R ∧ rest = R.map pcV ∧ Ext h h' ∧ h'[h.length]? = some (.dic (trueD (A.foldl (crowdS rows (dueR rows last)) (e, [])).2)) ∧ σ = [some (.ref r), some (.ref q), some (.int (last : Int)), some (.int e), some (.int (dueR rows last)), some (.int (A.foldl (crowdS rows (dueR rows last)) (e, [])).1), some (.ref h.length), y7, y8, y9]) _ _ _ ⟨[], P.reverse, none, none, none, rfl, rfl, X1, e1, rfl⟩ ?_ ?_
  · rintro x rest σ h' ⟨A, R, y7, y8, y9, eA, eR, X, en, rfl⟩
    obtain ⟨p, R, rfl, rfl, rfl⟩ : ∃ a B', R = a :: B' ∧ x = pcV a ∧ rest = B'.map pcV := by
      cases R with
      | nil => cases eR
      | cons a B' => cases eR; exact ⟨a, B', rfl, rfl, rfl⟩
    obtain ⟨n, a, b⟩ := p
    have mp : (n, a, b) ∈ P.reverse := by rw [eA]; simp
    obtain ⟨p0, p1⟩ := hPr _ mp
    obtain ⟨b1, b2⟩ := at_ p0 p1
    have fn : rowV (atR rows n) = .tup [.int (atR rows n).1, .int (atR rows n).2.1, .int (dueR rows n), .int (atR rows n).2.2.2] := rfl
    have eA2 : P.reverse = (A ++ [(n, a, b)]) ++ R := by rw [eA]; simp
    have nd := (crowd_nd (rows := rows) (due := dueR rows last) (l := A) (st := (e, [])) (fun p hp => hPr p (by rw [eA]; exact List.mem_append_left _ hp)) List.nodup_nil fun i hi => nomatch hi)
    have lk := nodup_sub_len nd.1 (b := nums rows.length) fun i hi => nums_mem.mpr (nd.2 i hi)
    rw [nums_len] at lk
    have fo : (A ++ [(n, a, b)]).foldl (crowdS rows (dueR rows last)) (e, []) = crowdS rows (dueR rows last) (A.foldl (crowdS rows (dueR rows last)) (e, [])) (n, a, b) := by rw [List.foldl_append]; rfl
    generalize A.foldl (crowdS rows (dueR rows last)) (e, []) = st at *
    refine ⟨⟨X _ _ eq, trivial⟩, _, rfl, fun K hK => ?_⟩
    show wSs _ _ [some _, some _, some _, some _, some _, some _, some _, some (.int n), some (.int a), some (.int b)] _ _
    unfold ir_ctt
    have er' := X _ _ er
    by_cases c1 : b = st.1
    · subst c1
      by_cases c2 : dueR rows n ≤ dueR rows last
      · have cs : crowdS rows (dueR rows last) st (n, a, st.1) = (a, if n ∈ st.2 then st.2 else st.2 ++ [n]) := by unfold crowdS; rw [if_pos ⟨rfl, c2⟩]
        have lb : (trueD st.2).length < 16777216 := by unfold trueD; rw [List.length_map]; omega
        refine wSs_step ?_
        simp_arith [er', b1, b2, fn, i42, c2]
        refine wSs_step ?_
        simp_arith [en]
        refine ⟨.one (.inl n), rfl, trueD_kind _ _, lb, ?_⟩
        refine wSs_step ?_; simp_arith []
        rw [trueD_put]
        refine hK _ _ ⟨A ++ [(n, a, st.1)], R, some (.int n), some (.int a), some (.int st.1), eA2, rfl, X.set' (Nat.le_refl _), ?_, ?_⟩
        · rw [set_get en, fo, cs]
        · rw [fo, cs]
      · have cs : crowdS rows (dueR rows last) st (n, a, st.1) = st := by unfold crowdS; rw [if_neg fun z => c2 z.2]
        refine wSs_step ?_
        simp_arith [er', b1, b2, fn, i42, c2]
        refine hK _ _ ⟨A ++ [(n, a, st.1)], R, some (.int n), some (.int a), some (.int st.1), eA2, rfl, X, ?_, ?_⟩
        · rw [fo, cs]; exact en
        · rw [fo, cs]
    · have c1' : (b == st.1) = false := by simpa using c1
      have cs : crowdS rows (dueR rows last) st (n, a, b) = st := by unfold crowdS; rw [if_neg fun z => c1 z.1]
      refine wSs_step ?_
      simp_arith [c1', c1]
      refine hK _ _ ⟨A ++ [(n, a, b)], R, some (.int n), some (.int a), some (.int b), eA2, rfl, X, ?_, ?_⟩
      · rw [fo, cs]; exact en
      · rw [fo, cs]
  · rintro σ h' ⟨A, R, y7, y8, y9, eA, eR, X, en, rfl⟩
    have : R = [] := by cases R with | nil => rfl | cons _ _ => cases eR
    subst this
    rw [List.append_nil] at eA
    subst eA
    refine ⟨⟨X _ _ eq, trivial⟩, ?_⟩
    have nd := (crowd_nd (rows := rows) (due := dueR rows last) (l := P.reverse) (st := (e, [])) hPr List.nodup_nil fun i hi => nomatch hi)
    have lk := nodup_sub_len nd.1 (b := nums rows.length) fun i hi => nums_mem.mpr (nd.2 i hi)
    rw [nums_len] at lk
    have ne : (P.reverse.foldl (crowdS rows (dueR rows last)) (e, [])).2 ≠ [] := crowd_ne (by
      obtain ⟨p, m, e1, e2⟩ := hx
      exact ⟨p, List.mem_reverse.mpr m, e1, by rw [e2]; exact Int.le_refl _⟩)
    refine wSs_step ?_
    simp_arith [en]
    refine ⟨fun z => ne (by unfold trueD at z; exact List.map_eq_nil_iff.mp z), crowdF rows P last e, ?_, ?_, fun ms pm pw => ?_⟩
    · unfold trueD crowdF
      rw [List.map_map]; rfl
    · show (P.reverse.foldl (crowdS rows (dueR rows last)) (e, [])).2.length < 64
      omega
    · exact kf ms _ _ (X.trans .app) X.len new_get pm pw
end Law

/-! k38wf: parted -/
namespace Law
open PySem Z Com
theorem eqv_intW (i j : Int) : PyData.eqv (.int i) (.int j) = (i == j) := rfl
def pcD (p : Pc) : PyData := .tuple [.int p.1, .int p.2.1, .int p.2.2]
def srtT (L : List Pc) : List Pc := L.mergeSort (PySem.W.dataLe false pcD)
theorem srtT_perm (L : List Pc) : (srtT L).Perm L := List.mergeSort_perm _ _
theorem sortZ_tri (L : List Pc) : sortZ (L.map pcV) (L.map pcD) = (srtT L).map pcV := sortZ_map pcV pcD L
theorem datAll_tri {h : Hep} {n : Nat} : ∀ ps : List Pc, datAll (dat h (n + 1)) (ps.map pcV) = some (ps.map pcD)
  | [] => rfl
  | p :: ps => by
    rw [List.map_cons, datAll, datAll_tri ps]
    have : dat h (n + 1) (pcV p) = some (pcD p) := by
      show (datAll (dat h n) [.int p.1, .int p.2.1, .int p.2.2]).map PyData.tuple = _
      rw [show datAll (dat h n) [.int p.1, .int p.2.1, .int p.2.2] = some [.int p.1, .int p.2.1, .int p.2.2] from datAll_ints (dat_int h n) [p.1, p.2.1, p.2.2]]
      rfl
    rw [this]
    rfl
theorem sorted_tri {h : Hep} {L : List Pc} {G : List PyData → Prop} (k : G (L.map pcD)) : ∃ ds, datAll (dat h 59) (L.map pcV) = some ds ∧ PySem.W.AllAlike ds ∧ PySem.W.Sortable ds ∧ G ds :=
  ⟨L.map pcD, datAll_tri (n := 58) L, PySem.W.AllAlike.of fun a b => by simp [pcD, PySem.W.alike, PySem.W.alikeAll], PySem.W.Sortable.tuples fun b => ⟨_, _, rfl⟩, k⟩
def lateP (p : Int × Row) : Int := p.1 - p.2.2.2.1
def lateL (rows : Rows) (s : St) : List Int := (s.done.zip rows).map lateP
theorem late_len {rows : Rows} {s : St} (I : InvS rows s) : (lateL rows s).length = rows.length := by unfold lateL; rw [List.length_map, List.length_zip, I.dl, Nat.min_self]
theorem zipL_gen {α β : Type} (f : α → PV) (g : β → PV) : ∀ (l : List α) (m : List β), zipL (l.map f) (m.map g) = (l.zip m).map fun p => .tup [f p.1, g p.2]
  | [], _ => by cases ‹List β› <;> rfl
  | _ :: _, [] => rfl
  | a :: l, b :: m => by
    show PV.tup [f a, g b] :: zipL (l.map f) (m.map g) = _
    rw [zipL_gen f g l m]; rfl
theorem first_at {α : Type} [DecidableEq α] {x : α} : ∀ {l : List α}, x ∈ l → ∃ A B, l = A ++ x :: B ∧ x ∉ A
  | y :: l, h => by
    by_cases c : y = x
    · subst c
      exact ⟨[], l, rfl, by simp⟩
    · obtain ⟨A, B, e, n⟩ := first_at (l := l) (by
        rcases List.mem_cons.mp h with z | z
        · exact absurd z.symm c
        · exact z)
      exact ⟨y :: A, B, by rw [e]; rfl, fun z => by
        rcases List.mem_cons.mp z with z | z
        · exact c z.symm
        · exact n z⟩
/-- what parted tells -/
structure Told (rows : Rows) (s : St) (last : Nat) (e : Int) : Prop where
  r : Reach rows s
  g : maxL s.left ≤ 0
  l : last < rows.length
  ll : (lateL rows s)[last]? = some (maxL (lateL rows s))
  le : s.done[last]? = some e
  f : ∀ j, j < last → (lateL rows s)[j]? ≠ some (maxL (lateL rows s))
def sd_parted : Z.Spec := fun args h F _ => ∃ (a : Nat) (rows : Rows), args = [.ref a] ∧ h[a]? = some (.lst (rows.map rowV)) ∧ 1 ≤ rows.length ∧ rows.length ≤ 30 ∧ (∀ p ∈ rows, GoodRow p) ∧
  ∀ (s : St) (last : Nat) (e : Int) (ms : List Int) (o q : Nat) (h' : Hep), Told rows s last e → Ext h h' → h.length ≤ o → o < q → h'[o]? = some (.lst ((srtT s.pcs).map pcV)) → h'[q]? = some (.lst (ms.map PV.int)) → ms.Perm (crowdF rows s.pcs last e) → ms.Pairwise (· ≤ ·) → F (.tup [.int (maxL (lateL rows s)), .ref o, .ref q]) h'
def WPar (rows : Rows) (h0 : Hep) (a : Nat) (m : Nat) (σ : Z.Env) (h' : Hep) : Prop := ∃ (p l q d : Nat) (s : St), m = msr rows s ∧ Reach rows s ∧ WkO h' p a l q d rows s ∧ Ext h0 h' ∧ h0.length ≤ p ∧ σ = [some (.ref a), some (.ref p), none, none, none, none]
theorem low_ext {p : Nat} {h0 h h' : Hep} (X : Ext h0 h) (l : h0.length ≤ p) (L : Low p h h') : Ext h0 h' := fun x o e => L.2 x o (by have := lt_of_get e; omega) (X x o e)
abbrev GPa : List Z.Spec := [sp_need_rows, sp_Work___init__, noS, sp_Work_go_on, sp_crowd_to]
def ir_pa2 : List Sm := [.set (.nm 2) (.comp [3, 4] (.tp [(.nm 3), (.nm 4)]) (.zip (.fld (.var 1) "Work" "done_at") (.var 0)) none (.bin .Sub (.var 3) (.idx (.var 4) (.int 2)))),
  .set (.nm 5) (.mi .index (.var 2) [(.bi .maxl [(.var 2)])]),
  .ret (.tup [(.bi .maxl [(.var 2)]), (.bi .sorted [(.fld (.var 1) "Work" "pieces")]), (.call 4 [(.var 0), (.fld (.var 1) "Work" "pieces"), (.var 5), (.idx (.fld (.var 1) "Work" "done_at") (.var 5))])])]
theorem left_zero {s : St} {rows : Rows} (I : InvS rows s) (g : maxL s.left ≤ 0) {i : Nat} (h : i < rows.length) : lfA s i = 0 := by
  have e := lf_get (s := s) (i := i) (by rw [I.ll]; exact h)
  have m := List.mem_of_getElem? e
  have a := I.l0 _ m
  have b := le_maxL m
  omega
theorem pa2_ok {rows : Rows} {a p l q d : Nat} {s : St} {h0 h : Hep} {D : Dz} (good : ∀ p ∈ rows, GoodRow p) (l1 : 1 ≤ rows.length) (l30 : rows.length ≤ 30) (R : Reach rows s) (g : maxL s.left ≤ 0) (W : WkO h p a l q d rows s) (X0 : Ext h0 h)
    (k : ∀ (last : Nat) (e : Int) (ms : List Int) (o q : Nat) (h' : Hep), Told rows s last e → Ext h0 h' → h0.length ≤ o → o < q → h'[o]? = some (.lst ((srtT s.pcs).map pcV)) → h'[q]? = some (.lst (ms.map PV.int)) → ms.Perm (crowdF rows s.pcs last e) → ms.Pairwise (· ≤ ·) → D.rt (.tup [.int (maxL (lateL rows s)), .ref o, .ref q]) h') :
    wSs GPa ir_pa2 [some (.ref a), some (.ref p), none, none, none, none] h D := by
  unfold ir_pa2
  have I := R.inv good
  have i42 : ixN 4 2 = some 2 := rfl
  have lL := late_len I
  refine wSs_step ?_; simp_arith [W.ob, lk_done, W.ed, W.er]
  rw [zipL_gen]
  refine comp_fil (f := fun p : Int × Row => .tup [.int p.1, rowV p.2]) (f2 := fun p => PV.int (lateP p)) (fun _ => true) (by rw [List.length_zip]; omega) (fun h' X => ⟨X _ _ W.ed, X _ _ W.er, trivial⟩) (fun w hw h' X => ⟨_, rfl, fun G hG => hG _ X, fun _ h2 X2 G hG => ?_⟩) fun h2 X2 => ?_
  · have rv : rowV w.2 = .tup [.int w.2.1, .int w.2.2.1, .int w.2.2.2.1, .int w.2.2.2.2] := rfl
    rw [rv]
    simp_arith [i42]
    exact hG _ X2
  · have e2 : ((s.done.zip rows).filter fun _ => true).map (fun p => PV.int (lateP p)) = (lateL rows s).map PV.int := by rw [List.filter_eq_self.mpr fun _ _ => rfl]; unfold lateL; rw [List.map_map]; rfl
    rw [e2]
    try simp_arith []
    have X3 : Ext h (h2 ++ [Ob.lst ((lateL rows s).map PV.int)]) := X2.trans .app
    have el := new_get (h := h2) (o := Ob.lst ((lateL rows s).map PV.int))
    generalize h2.length = r2 at *
    generalize h2 ++ [Ob.lst ((lateL rows s).map PV.int)] = h3 at *
    have ne : lateL rows s ≠ [] := fun z => by rw [z] at lL; simp at lL; omega
    obtain ⟨mm, ml⟩ := maxL_mem _ ne
    obtain ⟨A, B, eAB, nA⟩ := first_at mm
    have lAB := congrArg List.length eAB
    rw [List.length_append, List.length_cons, lL] at lAB
    have la : A.length < rows.length := by omega
    have gl : (lateL rows s)[A.length]? = some (maxL (lateL rows s)) := by
      generalize maxL (lateL rows s) = m at *
      rw [eAB]; simp
    have gf : ∀ j, j < A.length → (lateL rows s)[j]? ≠ some (maxL (lateL rows s)) := fun j hj z => by
      generalize maxL (lateL rows s) = m at *
      rw [eAB, List.getElem?_append_left hj] at z
      exact nA (List.mem_of_getElem? z)
    have ld : A.length < s.done.length := by rw [I.dl]; exact la
    obtain ⟨e, ge⟩ : ∃ e, s.done[A.length]? = some e := ⟨_, List.getElem?_eq_getElem ld⟩
    have T : Told rows s A.length e := ⟨R, g, la, gl, ge, gf⟩
    obtain ⟨x, y, mx, dx⟩ := I.pd A.length la (left_zero I g la)
    rw [ge] at dx
    cases dx
    have W3 := W.ext X3
    refine wSs_step ?_
    simp_arith [el]
    refine ⟨_, intsOf_map _, ne, ?_⟩
    refine ⟨.int (maxL (lateL rows s)), dat_int h3 59 _, rfl, (lateL rows s).map .int, datAll_ints (dat_int h3 59) _, lay_ints _, A.length, .int (maxL (lateL rows s)), by rw [List.getElem?_map, gl]; rfl, by rw [eqv_intW]; exact beq_self_eq_true _, fun m z' hm hz => ?_, ?_⟩
    · rw [List.getElem?_map] at hz
      cases hg : (lateL rows s)[m]? with
      | none => rw [hg] at hz; cases hz
      | some v =>
        rw [hg] at hz
        cases hz
        rw [eqv_intW]
        exact beq_eq_false_iff_ne.mpr fun z => gf m hm (by rw [hg, z])
    try simp_arith []
    refine wSs_step ?_; simp_arith [el]
    refine ⟨_, intsOf_map _, ne, ?_⟩
    try simp_arith [W3.ob, lk_pieces, W3.eq]
    refine sorted_tri ?_
    rw [sortZ_tri]
    have X4 : Ext h3 (h3 ++ [Ob.lst ((srtT s.pcs).map pcV)]) := .app
    have eo := new_get (h := h3) (o := Ob.lst ((srtT s.pcs).map pcV))
    have lo := (X0.trans X3).len
    have W4 := W3.ext X4
    generalize hor : h3.length = o at *
    generalize h3 ++ [Ob.lst ((srtT s.pcs).map pcV)] = h4 at *
    have l4 := lt_of_get eo
    have ixd : ixN s.done.length (A.length : Int) = some A.length := ixN_nat ld
    simp_arith [W4.ob, lk_pieces, lk_done, W4.ed, ixd, ge]
    refine ⟨a, q, rows, s.pcs, A.length, e, rfl, W4.er, W4.eq, l30, la, I.pn, ⟨_, mx, rfl, rfl⟩, fun ms b h5 X5 lb eb pm pw => ?_⟩
    try simp_arith []
    exact k A.length e ms o b h5 T (X0.trans (X3.trans (X4.trans X5))) lo (by omega) (X5 _ _ eo) eb pm pw
theorem md_parted : Meets GPa 6 1 ir_parted sd_parted := by
  rintro args h F E ⟨a, rows, rfl, ea, l1, l30, good, kf⟩
  refine ⟨rfl, ?_⟩
  rw [show ir_parted = .exp (.call 0 [(.var 0)]) :: .set (.nm 1) (.new 1 "Work" [(.var 0)]) :: .whl (.cmp .Gt (.bi .maxl [(.fld (.var 1) "Work" "left")]) (.int 0)) [.exp (.mth 3 "Work" "go_on" (.var 1) [])] :: ir_pa2 from rfl]
  show wSs _ _ [some _, none, none, none, none, none] h _
  refine wSs_step ?_; simp_arith []
  refine ⟨a, rows, rfl, ea, l1, l30, good, fun h1 X1 => ?_⟩
  try simp_arith []
  have ea1 := X1 _ _ ea
  have al := lt_of_get ea1
  refine wSs_step ?_; simp_arith []
  have X2 : Ext h (h1 ++ [Ob.ins (Str.ofString "Work") []]) := X1.trans .app
  have hl : h.length ≤ h1.length := X1.len
  refine ⟨h1.length, a, rows, rfl, new_get, app_get ea1, al, l1, l30, fun l q d h2 W L => ⟨rfl, ?_⟩⟩
  try simp_arith []
  refine wSs_step ?_
  rw [wS]
  refine ⟨WPar rows h a, ⟨_, h1.length, l, q, d, st0 rows, rfl, .base, W, low_ext X2 hl L, hl, rfl⟩, ?_⟩
  rintro m σ h' ⟨p, l, q, d, s, rfl, R, W, X, hp, rfl⟩
  have I := R.inv good
  have ne : s.left ≠ [] := fun z => by have := I.ll; rw [z] at this; simp at this; omega
  simp_arith [W.ob, lk_left, W.el]
  refine ⟨_, intsOf_map _, ne, ?_⟩
  try simp_arith []
  by_cases g : 0 < maxL s.left
  · simp_arith [g]
    refine wSs_step ?_
    simp_arith [W.ob, lk_go]
    have pb := pcs_bd good l30 R
    refine ⟨p, a, l, q, d, rows, s, rfl, W, I, l30, by omega, g, fun h3 W3 L3 => ?_⟩
    try simp_arith []
    exact ⟨_, msr_lt I g, p, l, q, d, _, rfl, R.step g, W3, low_ext X hp L3, hp, rfl⟩
  · simp_arith [g]
    exact pa2_ok good l1 l30 R (by omega) W X fun last e ms o b h3 T X3 lo lb eo eb pm pw => kf s last e ms o b h3 T X3 lo lb eo eb pm pw
end Law

/-! k33xa: the hours that Work worked (plain law) -/
namespace Law
open PySem Z Com
/-- at each hour the one that is worked on -/
abbrev Hs := List (Option Nat)
def cnt (w : Hs) (i : Nat) : Int := (w.count (some i) : Nat)
theorem cnt_rep (n i k : Nat) : cnt (List.replicate k (some n)) i = if i = n then (k : Int) else 0 := by
  unfold cnt
  rw [List.count_replicate]
  by_cases c : i = n
  · subst c; simp
  · have c2 : ¬ n = i := fun z => c z.symm
    simp [c, c2]
theorem cnt_none (i k : Nat) : cnt (List.replicate k (none : Option Nat)) i = 0 := by
  unfold cnt
  rw [List.count_replicate]; simp
theorem cnt_app (v w : Hs) (i : Nat) : cnt (v ++ w) i = cnt v i + cnt w i := by
  unfold cnt
  rw [List.count_append]; omega
/-- the state as the hours tell it -/
def stH (rows : Rows) (v : Hs) : St := ⟨rows.zipIdx.map fun p => p.1.1 - cnt v p.2, (v.length : Int), [], []⟩
def pick (rows : Rows) (v : Hs) : Option Nat := (whoF rows (stH rows v)).map Int.toNat
theorem stH_lf {rows : Rows} {v : Hs} {i : Nat} {r : Row} (e : rows[i]? = some r) : lfA (stH rows v) i = r.1 - cnt v i := by
  unfold lfA stH
  show ((rows.zipIdx.map fun p => p.1.1 - cnt v p.2)[i]?).getD 0 = _
  rw [List.getElem?_map, List.getElem?_zipIdx, e]
  show r.1 - cnt v (0 + i) = _
  rw [Nat.zero_add]
theorem none_is {rows : Rows} {s : St} (e : someF rows s = []) : whoF rows s = none := by
  unfold whoF
  have pm := srtP_perm (someF rows s)
  rw [e] at pm
  rw [e, List.perm_nil.mp pm]; rfl
theorem late_come {rows : Rows} {t : Int} {r : Row} {i : Nat} (e : rows[i]? = some r) (c : t < r.2.1) : ∃ b, nextF rows t = some b ∧ b ≤ r.2.1 := by
  have m : r.2.1 ∈ comeL rows t := come_mem.mpr ⟨r, List.mem_of_getElem? e, rfl, c⟩
  cases h : nextF rows t with
  | none =>
    unfold nextF at h
    split at h
    · rename_i z; rw [z] at m; cases m
    · cases h
  | some b => exact ⟨b, rfl, (next_some h).2 _ m⟩
def hrF (rows : Rows) (s : St) : Hs := match whoF rows s with
  | none => List.replicate (((nextF rows s.hour).getD 0) - s.hour).toNat none
  | some n => List.replicate (behF rows s n - s.hour).toNat (some n.toNat)
inductive ReachH (rows : Rows) : St → Hs → Prop
  | base : ReachH rows (st0 rows) []
  | step {s : St} {w : Hs} (r : ReachH rows s w) (g : 0 < maxL s.left) : ReachH rows (stepF rows s) (w ++ hrF rows s)
theorem Reach.h {rows : Rows} {s : St} (r : Reach rows s) : ∃ w, ReachH rows s w := by
  induction r with
  | base => exact ⟨_, .base⟩
  | step r g ih => obtain ⟨w, h⟩ := ih; exact ⟨_, .step h g⟩
theorem ReachH.r {rows : Rows} {s : St} {w : Hs} (r : ReachH rows s w) : Reach rows s := by
  induction r with
  | base => exact .base
  | step r g ih => exact .step ih g
/-! ### pieces of hours -/
def pstep (P : List Pc) (p : Option Nat × Nat) : List Pc := match p.1 with
  | none => P
  | some n => putF ⟨[], (p.2 : Int), P, []⟩ (n : Int) ((p.2 : Int) + 1)
def runs (w : Hs) : List Pc := w.zipIdx.foldl pstep []
theorem runs_one (w : Hs) (o : Option Nat) : runs (w ++ [o]) = pstep (runs w) (o, w.length) := by
  unfold runs
  rw [List.zipIdx_append, List.foldl_append]
  show pstep _ (o, 0 + w.length) = _
  rw [Nat.zero_add]
theorem runs_none (w : Hs) : ∀ k, runs (w ++ List.replicate k none) = runs w
  | 0 => by rw [List.replicate_zero, List.append_nil]
  | k + 1 => by
    rw [List.replicate_succ', ← List.append_assoc, runs_one, runs_none w k]; rfl
theorem put_put {l l2 : List Int} {h b c n : Int} {P : List Pc} {D D2 : List Int} : putF ⟨l2, b, putF ⟨l, h, P, D⟩ n b, D2⟩ n c = putF ⟨l, h, P, D⟩ n c := by
  have app : putF ⟨l2, b, P ++ [(n, h, b)], D2⟩ n c = P ++ [(n, h, c)] := by
    unfold putF
    show (match (P ++ [(n, h, b)])[(P ++ [(n, h, b)]).length - 1]? with | some q => if q.1 = n ∧ q.2.2 = b then (P ++ [(n, h, b)]).set ((P ++ [(n, h, b)]).length - 1) (n, q.2.1, c) else _ | none => _) = _
    rw [List.length_append, List.length_singleton, Nat.add_sub_cancel, List.getElem?_append_right (Nat.le_refl _), Nat.sub_self]
    show (if n = n ∧ b = b then _ else _) = _
    rw [if_pos ⟨rfl, rfl⟩, List.set_append_right _ _ (Nat.le_refl _), Nat.sub_self]; rfl
  cases e : P[P.length - 1]? with
  | none =>
    have e1 : ∀ x, putF ⟨l, h, P, D⟩ n x = P ++ [(n, h, x)] := fun x => by unfold putF; show (match P[P.length - 1]? with | some q => _ | none => _) = _; rw [e]
    rw [e1, e1, app]
  | some q =>
    by_cases cc : q.1 = n ∧ q.2.2 = h
    · have e1 : ∀ x, putF ⟨l, h, P, D⟩ n x = P.set (P.length - 1) (n, q.2.1, x) := fun x => by
        unfold putF
        show (match P[P.length - 1]? with | some q => if q.1 = n ∧ q.2.2 = h then _ else _ | none => _) = _
        rw [e]
        show (if _ then _ else _) = _
        rw [if_pos cc]
      have lt := (List.getElem?_eq_some_iff.mp e).1
      rw [e1, e1]
      unfold putF
      show (match (P.set (P.length - 1) (n, q.2.1, b))[(P.set (P.length - 1) (n, q.2.1, b)).length - 1]? with | some q => if q.1 = n ∧ q.2.2 = b then (P.set (P.length - 1) (n, _, b)).set ((P.set (P.length - 1) (n, _, b)).length - 1) (n, q.2.1, c) else _ | none => _) = _
      rw [List.length_set, List.getElem?_set_self lt]
      show (if n = n ∧ b = b then _ else _) = _
      rw [if_pos ⟨rfl, rfl⟩, List.set_set]
    · have e1 : ∀ x, putF ⟨l, h, P, D⟩ n x = P ++ [(n, h, x)] := fun x => by
        unfold putF
        show (match P[P.length - 1]? with | some q => if q.1 = n ∧ q.2.2 = h then _ else _ | none => _) = _
        rw [e]
        show (if _ then _ else _) = _
        rw [if_neg cc]
      rw [e1, e1, app]
theorem put_eq (s : St) (n b : Int) : putF s n b = putF ⟨[], s.hour, s.pcs, []⟩ n b := rfl
theorem runs_some (w : Hs) (n : Nat) : ∀ k, 0 < k → runs (w ++ List.replicate k (some n)) = putF ⟨[], (w.length : Int), runs w, []⟩ (n : Int) ((w.length : Int) + (k : Int))
  | 1, _ => by
    rw [show List.replicate 1 (some n) = [some n] from rfl, runs_one]; rfl
  | k + 2, _ => by
    have ih := runs_some w n (k + 1) (by omega)
    rw [List.replicate_succ', ← List.append_assoc, runs_one, ih]
    show putF ⟨[], ((w ++ List.replicate (k + 1) (some n)).length : Int), _, []⟩ (n : Int) (((w ++ List.replicate (k + 1) (some n)).length : Int) + 1) = _
    rw [List.length_append, List.length_replicate, show ((w.length + (k + 1) : Nat) : Int) = (w.length : Int) + ((k + 1 : Nat) : Int) by omega, put_put]
    exact congrArg (putF _ _) (by omega)
/-- pieces as the hours tell them -/
structure PcOk (w : Hs) (P : List Pc) : Prop where
  fm : ∀ p ∈ P, ∃ i a b : Nat, p = ((i : Int), (a : Int), (b : Int)) ∧ a < b ∧ b ≤ w.length ∧ ∀ t, a ≤ t → t < b → w[t]? = some (some i)
  pw : P.Pairwise fun p q => p.2.2 ≤ q.2.1
  cv : ∀ t i : Nat, w[t]? = some (some i) → ∃ p ∈ P, p.1 = (i : Int) ∧ p.2.1 ≤ (t : Int) ∧ (t : Int) < p.2.2
theorem get_app {w : Hs} {o o2 : Option Nat} {t : Nat} (e : w[t]? = some o2) : (w ++ [o])[t]? = some o2 := by
  rw [List.getElem?_append_left (List.getElem?_eq_some_iff.mp e).1]; exact e
theorem split_last {α : Type} {P : List α} {q : α} (e : P[P.length - 1]? = some q) : P = P.dropLast ++ [q] := by
  have lt := (List.getElem?_eq_some_iff.mp e).1
  have ne : P ≠ [] := fun z => by subst z; cases lt
  have h := (List.dropLast_concat_getLast ne).symm
  have g : P.getLast ne = q := by
    rw [List.getLast_eq_getElem]
    exact (List.getElem?_eq_some_iff.mp e).2
  rw [g] at h
  exact h
theorem PcOk.snoc {w : Hs} {P : List Pc} (I : PcOk w P) (o : Option Nat) : PcOk (w ++ [o]) (pstep P (o, w.length)) := by
  have fm' : ∀ p ∈ P, ∃ i a b : Nat, p = ((i : Int), (a : Int), (b : Int)) ∧ a < b ∧ b ≤ (w ++ [o]).length ∧ ∀ t, a ≤ t → t < b → (w ++ [o])[t]? = some (some i) := fun p hp => by
    obtain ⟨i, a, b, e, l, lb, h⟩ := I.fm p hp
    exact ⟨i, a, b, e, l, by rw [List.length_append]; omega, fun t h1 h2 => get_app (h t h1 h2)⟩
  have at_ : ∀ t i, (w ++ [o])[t]? = some (some i) → w[t]? = some (some i) ∨ (t = w.length ∧ o = some i) := fun t i e => by
    rw [List.getElem?_append] at e
    split at e
    · exact .inl e
    · have : t - w.length = 0 := by
        have := (List.getElem?_eq_some_iff.mp e).1
        simp at this; omega
      rw [this] at e
      exact .inr ⟨by omega, by simpa using e⟩
  cases o with
  | none =>
    refine ⟨fm', I.pw, fun t i e => ?_⟩
    rcases at_ t i e with e | ⟨_, e⟩
    · exact I.cv t i e
    · cases e
  | some n =>
    have new : (w ++ [some n])[w.length]? = some (some n) := by simp
    show PcOk _ (putF ⟨[], (w.length : Int), P, []⟩ (n : Int) ((w.length : Int) + 1))
    have app : PcOk (w ++ [some n]) (P ++ [((n : Int), (w.length : Int), (w.length : Int) + 1)]) := by
      refine ⟨fun p hp => ?_, List.pairwise_append.mpr ⟨I.pw, List.pairwise_singleton _ _, fun p hp q hq => ?_⟩, fun t i e => ?_⟩
      · rcases List.mem_append.mp hp with hp | hp
        · exact fm' p hp
        · rw [List.mem_singleton.mp hp]
          refine ⟨n, w.length, w.length + 1, rfl, by omega, by rw [List.length_append]; exact Nat.le_refl _, fun t h1 h2 => ?_⟩
          rw [show t = w.length by omega]; exact new
      · rw [List.mem_singleton.mp hq]
        obtain ⟨i, a, b, rfl, _, lb, _⟩ := I.fm p hp
        show (b : Int) ≤ (w.length : Int)
        omega
      · rcases at_ t i e with e | ⟨rfl, e'⟩
        · obtain ⟨p, hp, h⟩ := I.cv t i e
          exact ⟨p, List.mem_append_left _ hp, h⟩
        · cases e'
          exact ⟨_, List.mem_append_right _ (List.mem_singleton.mpr rfl), rfl, Int.le_refl _, by show (w.length : Int) < (w.length : Int) + 1; omega⟩
    cases e : P[P.length - 1]? with
    | none =>
      have e1 : putF ⟨[], (w.length : Int), P, []⟩ (n : Int) ((w.length : Int) + 1) = P ++ [((n : Int), (w.length : Int), (w.length : Int) + 1)] := by unfold putF; show (match P[P.length - 1]? with | some q => _ | none => _) = _; rw [e]
      rw [e1]; exact app
    | some q =>
      by_cases cc : q.1 = (n : Int) ∧ q.2.2 = (w.length : Int)
      · have e1 : putF ⟨[], (w.length : Int), P, []⟩ (n : Int) ((w.length : Int) + 1) = P.set (P.length - 1) ((n : Int), q.2.1, (w.length : Int) + 1) := by
          unfold putF
          show (match P[P.length - 1]? with | some q => if q.1 = (n : Int) ∧ q.2.2 = (w.length : Int) then _ else _ | none => _) = _
          rw [e]
          show (if _ then _ else _) = _
          rw [if_pos cc]
        rw [e1]
        obtain ⟨i, a, b, eq, lab, lb, hq⟩ := I.fm q (List.mem_of_getElem? e)
        obtain ⟨q1, q2⟩ := cc
        have ei : i = n := by rw [eq] at q1; exact Int.ofNat.inj q1
        have eb : b = w.length := by rw [eq] at q2; exact Int.ofNat.inj q2
        subst ei; subst eb
        have sp := split_last e
        have es : P.set (P.length - 1) ((i : Int), q.2.1, (w.length : Int) + 1) = P.dropLast ++ [((i : Int), (a : Int), (w.length : Int) + 1)] := by
          have ld : P.length - 1 = P.dropLast.length := by rw [List.length_dropLast]
          rw [ld]
          conv => lhs; arg 1; rw [sp]
          rw [List.set_append_right _ _ (Nat.le_refl _), Nat.sub_self, eq]; rfl
        rw [es]
        have pw := I.pw
        rw [sp] at pw
        obtain ⟨pw1, _, pw2⟩ := List.pairwise_append.mp pw
        refine ⟨fun p hp => ?_, List.pairwise_append.mpr ⟨pw1, List.pairwise_singleton _ _, fun p hp q' hq' => ?_⟩, fun t j e => ?_⟩
        · rcases List.mem_append.mp hp with hp | hp
          · exact fm' p (by rw [sp]; exact List.mem_append_left _ hp)
          · rw [List.mem_singleton.mp hp]
            refine ⟨i, a, w.length + 1, rfl, by omega, by rw [List.length_append]; exact Nat.le_refl _, fun t h1 h2 => ?_⟩
            by_cases c : t < w.length
            · exact get_app (hq t h1 c)
            · rw [show t = w.length by omega]; exact new
        · rw [List.mem_singleton.mp hq']
          have := pw2 p hp q (List.mem_singleton.mpr rfl)
          rw [eq] at this
          exact this
        · rcases at_ t j e with e | ⟨rfl, e'⟩
          · obtain ⟨p, hp, h1, h2, h3⟩ := I.cv t j e
            rw [sp] at hp
            rcases List.mem_append.mp hp with hp | hp
            · exact ⟨p, List.mem_append_left _ hp, h1, h2, h3⟩
            · rw [List.mem_singleton.mp hp, eq] at h1 h2 h3
              exact ⟨_, List.mem_append_right _ (List.mem_singleton.mpr rfl), h1, h2, by show (t : Int) < (w.length : Int) + 1; have h3 : (t : Int) < (w.length : Int) := h3; omega⟩
          · cases e'
            exact ⟨_, List.mem_append_right _ (List.mem_singleton.mpr rfl), rfl, by show (a : Int) ≤ (w.length : Int); omega, by show (w.length : Int) < (w.length : Int) + 1; omega⟩
      · have e1 : putF ⟨[], (w.length : Int), P, []⟩ (n : Int) ((w.length : Int) + 1) = P ++ [((n : Int), (w.length : Int), (w.length : Int) + 1)] := by
          unfold putF
          show (match P[P.length - 1]? with | some q => if q.1 = (n : Int) ∧ q.2.2 = (w.length : Int) then _ else _ | none => _) = _
          rw [e]
          show (if _ then _ else _) = _
          rw [if_neg cc]
        rw [e1]; exact app
theorem runs_ok : ∀ (v u : Hs), PcOk u (runs u) → PcOk (u ++ v) (runs (u ++ v))
  | [], u, I => by rw [List.append_nil]; exact I
  | o :: v, u, I => by
    have := runs_ok v (u ++ [o]) (by rw [runs_one]; exact I.snoc o)
    rw [List.append_assoc] at this
    exact this
theorem pcOk (w : Hs) : PcOk w (runs w) := runs_ok w [] ⟨fun p hp => (nomatch hp), List.Pairwise.nil, fun t i e => by simp at e⟩
end Law

/-! k33xb: what holds of the hours all along (plain law) -/
namespace Law
open PySem Z Com
structure InvH (rows : Rows) (s : St) (w : Hs) : Prop where
  len : (w.length : Int) = s.hour
  cn : ∀ (i : Nat) (r : Row), rows[i]? = some r → lfA s i = r.1 - cnt w i
  edf : ∀ (t : Nat) (o : Option Nat), w[t]? = some o → o = pick rows (w.take t)
  dn : ∀ i : Nat, i < rows.length → lfA s i = 0 → ∃ e : Nat, s.done[i]? = some (e : Int) ∧ 0 < e ∧ w[e - 1]? = some (some i) ∧ ∀ t, e ≤ t → w[t]? ≠ some (some i)
  pc : s.pcs = runs w
  lst : (∀ x ∈ s.left, x ≤ 0) → rows ≠ [] → ∃ i : Nat, w[w.length - 1]? = some (some i)
  hb : s.hour + s.left.sum ≤ 1000000 + (rows.map (·.1)).sum
  sl : s.left.sum ≤ (rows.map (·.1)).sum
theorem take_in {w v : Hs} {t : Nat} (h : t < w.length) : (w ++ v).take t = w.take t := List.take_append_of_le_length (by omega)
theorem take_out {w : Hs} {o : Option Nat} {t k : Nat} (h : w.length ≤ t) (h2 : t < w.length + k) : (w ++ List.replicate k o).take t = w ++ List.replicate (t - w.length) o := by
  rw [List.take_append, List.take_of_length_le h, List.take_replicate, Nat.min_eq_left (by omega)]
theorem get_out {w : Hs} {o o2 : Option Nat} {t k : Nat} (h : w.length ≤ t) (e : (w ++ List.replicate k o)[t]? = some o2) : t < w.length + k ∧ o2 = o := by
  have lt := (List.getElem?_eq_some_iff.mp e).1
  rw [List.length_append, List.length_replicate] at lt
  rw [List.getElem?_append_right h, List.getElem?_replicate, if_pos (by omega)] at e
  exact ⟨lt, by cases e; rfl⟩
theorem inv0H {rows : Rows} (good : ∀ p ∈ rows, GoodRow p) : InvH rows (st0 rows) [] where
  len := rfl
  cn := fun i r e => by
    have : lfA (st0 rows) i = r.1 := by
      unfold lfA st0
      show ((rows.map (·.1))[i]?).getD 0 = _
      rw [List.getElem?_map, e]; rfl
    rw [this]
    show r.1 = r.1 - ((List.count (some i) [] : Nat) : Int)
    rw [List.count_nil]
    show r.1 = r.1 - 0
    omega
  edf := fun t o e => by simp at e
  dn := fun i hi e => by
    obtain ⟨a, b, m, _⟩ := (inv0 good).pd i hi e
    cases m
  pc := rfl
  lst := fun h ne => by
    exfalso
    obtain ⟨r, l, e⟩ := List.exists_cons_of_ne_nil ne
    subst e
    have := h r.1 (by show r.1 ∈ ((r :: l).map (·.1)); exact List.mem_cons_self)
    have := (good r List.mem_cons_self).1
    omega
  hb := by show 0 + (rows.map (·.1)).sum ≤ _; omega
  sl := Int.le_refl _
theorem InvH.step {rows : Rows} (good : ∀ p ∈ rows, GoodRow p) {s : St} {w : Hs} (I : InvS rows s) (J : InvH rows s w) (g : 0 < maxL s.left) : InvH rows (stepF rows s) (w ++ hrF rows s) := by
  have l0 := J.len
  cases e : whoF rows s with
  | none =>
    obtain ⟨b, eb⟩ := come_some I g e
    have gt := next_gt eb
    have eh : hrF rows s = List.replicate (b - s.hour).toNat none := by unfold hrF; rw [e, eb]; rfl
    have es : stepF rows s = { s with hour := b } := by rw [step_none e, eb]; rfl
    rw [eh, es]
    generalize hk : (b - s.hour).toNat = k at *
    refine ⟨?_, fun i r er => ?_, fun t o et => ?_, fun i hi e0 => ?_, ?_, fun h => ?_, ?_, J.sl⟩
    · rw [List.length_append, List.length_replicate]
      show ((w.length + k : Nat) : Int) = b
      omega
    · rw [cnt_app, cnt_none, Int.add_zero]
      exact J.cn i r er
    · by_cases c : t < w.length
      · rw [take_in c]
        rw [List.getElem?_append_left c] at et
        exact J.edf t o et
      · obtain ⟨c2, rfl⟩ := get_out (by omega) et
        rw [take_out (by omega) c2]
        unfold pick
        rw [none_is, Option.map_none]
        refine List.eq_nil_iff_forall_not_mem.mpr fun y hy => ?_
        obtain ⟨i, r, _, er, _, h1, h2⟩ := some_mem.mp (show (y.1, y.2) ∈ _ from hy)
        rw [stH_lf er, cnt_app, cnt_none, Int.add_zero, ← J.cn i r er] at h1
        have h2 : r.2.1 ≤ (((w ++ List.replicate (t - w.length) none).length : Nat) : Int) := h2
        rw [List.length_append, List.length_replicate] at h2
        by_cases c3 : r.2.1 ≤ s.hour
        · have : (r.2.2.1, (i : Int)) ∈ someF rows s := some_mem.mpr ⟨i, r, rfl, er, rfl, h1, c3⟩
          rw [who_none e] at this
          cases this
        · obtain ⟨b', eb', lb⟩ := late_come er (Int.not_le.mp c3)
          rw [eb] at eb'
          cases eb'
          omega
    · obtain ⟨f, d1, d2, d3, d4⟩ := J.dn i hi e0
      refine ⟨f, d1, d2, ?_, fun t ht z => ?_⟩
      · rw [List.getElem?_append_left (List.getElem?_eq_some_iff.mp d3).1]; exact d3
      · by_cases c : t < w.length
        · rw [List.getElem?_append_left c] at z
          exact d4 t ht z
        · obtain ⟨_, z⟩ := get_out (by omega) z
          cases z
    · rw [runs_none]; exact J.pc
    · exfalso
      have ne : s.left ≠ [] := fun z => by rw [z] at g; exact absurd g (by decide)
      have := h _ (maxL_mem s.left ne).1
      omega
    · obtain ⟨r, hr, e1, _⟩ := come_mem.mp (next_some eb).1
      have := (good r hr).2.1
      have := J.sl
      show b + s.left.sum ≤ _
      omega
  | some n =>
    obtain ⟨i, r, rfl, il, er, h1, h2, el⟩ := who_at I e
    have ls : i < s.left.length := by rw [I.ll]; exact il
    obtain ⟨b1, b2⟩ := beh_bd (rows := rows) h1
    have eh : hrF rows s = List.replicate (behF rows s (i : Int) - s.hour).toNat (some i) := by unfold hrF; rw [e]; rfl
    have bn : ∀ b', nextF rows s.hour = some b' → behF rows s (i : Int) ≤ b' := fun b' eb' => by
      unfold behF
      rw [eb']
      exact Int.min_le_right _ _
    rw [eh, step_some e]
    simp only [Int.toNat_natCast]
    generalize behF rows s (i : Int) = b at *
    generalize hk : (b - s.hour).toNat = k at *
    have kb : b = s.hour + (k : Int) := by omega
    have k0 : 0 < k := by omega
    refine ⟨?_, fun j r' er' => ?_, fun t o et => ?_, fun j hj e0 => ?_, ?_, fun _ _ => ⟨i, ?_⟩, ?_, ?_⟩
    · rw [List.length_append, List.length_replicate]
      show ((w.length + k : Nat) : Int) = b
      omega
    · rw [lf_set ls, cnt_app, cnt_rep]
      have c0 := J.cn j r' er'
      by_cases c : i = j
      · subst c
        rw [if_pos rfl, if_pos rfl]; omega
      · rw [if_neg c, if_neg (fun z => c z.symm)]; omega
    · by_cases c : t < w.length
      · rw [take_in c]
        rw [List.getElem?_append_left c] at et
        exact J.edf t o et
      · obtain ⟨c2, rfl⟩ := get_out (by omega) et
        rw [take_out (by omega) c2]
        unfold pick
        have lenj : (stH rows (w ++ List.replicate (t - w.length) (some i))).hour = ((w.length + (t - w.length) : Nat) : Int) := by
          show (((w ++ List.replicate (t - w.length) (some i)).length : Nat) : Int) = _
          rw [List.length_append, List.length_replicate]
        have mi : (r.2.2.1, (i : Int)) ∈ someF rows (stH rows (w ++ List.replicate (t - w.length) (some i))) := by
          refine some_mem.mpr ⟨i, r, rfl, er, rfl, ?_, ?_⟩
          · rw [stH_lf er, cnt_app, cnt_rep, if_pos rfl]
            have := J.cn i r er
            omega
          · rw [lenj]; omega
        rw [who_is mi, Option.map_some, Int.toNat_natCast]
        intro y hy
        obtain ⟨j, r', ej, er', ed, h1', h2'⟩ := some_mem.mp (show (y.1, y.2) ∈ _ from hy)
        by_cases c : j = i
        · subst c
          rw [er] at er'
          cases er'
          exact .inr ⟨ed.symm, by rw [ej]; exact Int.le_refl _⟩
        · rw [stH_lf er', cnt_app, cnt_rep, if_neg c, Int.add_zero, ← J.cn j r' er'] at h1'
          rw [lenj] at h2'
          by_cases c3 : r'.2.1 ≤ s.hour
          · have m2 : (y.1, y.2) ∈ someF rows s := some_mem.mpr ⟨j, r', ej, er', ed, h1', c3⟩
            obtain ⟨d, md, ml⟩ := who_some e
            obtain ⟨i2, r2, e1, e2, e3, _⟩ := some_mem.mp md
            have : i2 = i := (Int.ofNat.inj e1).symm
            subst this
            rw [er] at e2
            cases e2
            rw [← e3]
            exact ml _ m2
          · obtain ⟨b', eb', lb⟩ := late_come er' (Int.not_le.mp c3)
            have := bn b' eb'
            omega
    · rw [lf_set ls] at e0
      by_cases c : i = j
      · subst c
        rw [if_pos rfl] at e0
        refine ⟨w.length + k, ?_, by omega, ?_, fun t ht z => ?_⟩
        · show (if _ then s.done.set i b else s.done)[i]? = some (((w.length + k : Nat)) : Int)
          rw [if_pos e0, List.getElem?_set_self (by rw [I.dl]; exact il)]
          congr 1
          omega
        · rw [List.getElem?_append_right (by omega), List.getElem?_replicate, if_pos (by omega)]
        · obtain ⟨c2, _⟩ := get_out (by omega) z
          omega
      · rw [if_neg c] at e0
        obtain ⟨f, d1, d2, d3, d4⟩ := J.dn j hj e0
        refine ⟨f, ?_, d2, ?_, fun t ht z => ?_⟩
        · show (if _ then s.done.set i b else s.done)[j]? = some (f : Int)
          split
          · rw [List.getElem?_set_ne c]; exact d1
          · exact d1
        · rw [List.getElem?_append_left (List.getElem?_eq_some_iff.mp d3).1]; exact d3
        · by_cases c2 : t < w.length
          · rw [List.getElem?_append_left c2] at z
            exact d4 t ht z
          · obtain ⟨_, z⟩ := get_out (by omega) z
            cases z
            exact c rfl
    · rw [runs_some w i k k0, ← J.pc, l0]
      show putF s i b = _
      rw [put_eq, kb]
    · rw [List.length_append, List.length_replicate, List.getElem?_append_right (by omega), List.getElem?_replicate, if_pos (by omega)]
    · have ss := sum_set (v := lfA s i - (b - s.hour)) el
      have := J.hb
      show b + (s.left.set i (lfA s i - (b - s.hour))).sum ≤ _
      omega
    · have ss := sum_set (v := lfA s i - (b - s.hour)) el
      have := J.sl
      show (s.left.set i (lfA s i - (b - s.hour))).sum ≤ _
      omega
theorem ReachH.inv {rows : Rows} (good : ∀ p ∈ rows, GoodRow p) {s : St} {w : Hs} (r : ReachH rows s w) : InvH rows s w := by
  induction r with
  | base => exact inv0H good
  | step r g ih => exact ih.step good (r.r.inv good) g
/-- what the hours tell when all is done -/
structure Fin (rows : Rows) (s : St) (w : Hs) : Prop where
  cn : ∀ (i : Nat) (r : Row), rows[i]? = some r → cnt w i = r.1
  inr : ∀ t i : Nat, w[t]? = some (some i) → ∃ r, rows[i]? = some r ∧ r.2.1 ≤ (t : Int)
  edf : ∀ (t : Nat) (o : Option Nat), w[t]? = some o → o = pick rows (w.take t)
  dn : ∀ i : Nat, i < rows.length → ∃ e : Nat, s.done[i]? = some (e : Int) ∧ 0 < e ∧ w[e - 1]? = some (some i) ∧ ∀ t, e ≤ t → w[t]? ≠ some (some i)
  dl : s.done.length = rows.length
  pc : s.pcs = runs w
  lst : rows ≠ [] → ∃ i : Nat, w[w.length - 1]? = some (some i)
  hb : (w.length : Int) ≤ 1000000 + (rows.map (·.1)).sum
theorem fin_of {rows : Rows} (good : ∀ p ∈ rows, GoodRow p) {s : St} (r : Reach rows s) (g : maxL s.left ≤ 0) : ∃ w, Fin rows s w := by
  obtain ⟨w, h⟩ := r.h
  have I := r.inv good
  have J := h.inv good
  have z : ∀ {i : Nat}, i < rows.length → lfA s i = 0 := fun hi => left_zero I g hi
  refine ⟨w, fun i r er => ?_, fun t i e => ?_, J.edf, fun i hi => J.dn i hi (z hi), I.dl, J.pc, J.lst fun x hx => ?_, ?_⟩
  · have a := J.cn i r er
    have b := z (List.getElem?_eq_some_iff.mp er).1
    omega
  · have a := J.edf t _ e
    unfold pick at a
    cases hw : whoF rows (stH rows (w.take t)) with
    | none => rw [hw] at a; cases a
    | some n =>
      rw [hw] at a
      obtain ⟨d, m, _⟩ := who_some hw
      obtain ⟨j, r, rfl, er, _, _, h2⟩ := some_mem.mp m
      cases a
      refine ⟨r, by rw [Int.toNat_natCast]; exact er, ?_⟩
      have h2 : r.2.1 ≤ (((w.take t).length : Nat) : Int) := h2
      rw [List.length_take] at h2
      omega
  · have := le_maxL hx
    omega
  · have a := J.hb
    have b := sum_nn I.l0
    have c := J.len
    omega
end Law

/-! k33xc: what the crowd shows (plain law) -/
namespace Law
open PySem Z Com
structure CrI (rows : Rows) (D : Int) (l : List Pc) (e0 : Int) (f0 : List Int) (t0 : Int) (f : List Int) : Prop where
  le : t0 ≤ e0
  cv : ∀ t, t0 ≤ t → t < e0 → ∃ p ∈ l, p.2.1 ≤ t ∧ t < p.2.2 ∧ dueR rows p.1 ≤ D ∧ p.1 ∈ f
  mm : ∀ i ∈ f, i ∈ f0 ∨ ∃ p ∈ l, p.1 = i ∧ t0 ≤ p.2.1 ∧ p.2.2 ≤ e0 ∧ dueR rows i ≤ D
  cl : ∀ p ∈ l, p.2.2 = t0 → D < dueR rows p.1
  bg : t0 = e0 ∨ ∃ p ∈ l, p.2.1 = t0
  sb : ∀ i ∈ f0, i ∈ f
theorem crowd_inv {rows : Rows} {D : Int} : ∀ (l : List Pc) (st : Int × List Int), (∀ p ∈ l, p.2.1 < p.2.2) → l.Pairwise (fun p q => q.2.2 ≤ p.2.1) → CrI rows D l st.1 st.2 (l.foldl (crowdS rows D) st).1 (l.foldl (crowdS rows D) st).2
  | [], st, _, _ => ⟨Int.le_refl _, fun t h1 h2 => absurd h2 (Int.not_lt.mpr h1), fun i hi => .inl hi, fun p hp => (nomatch hp), .inl rfl, fun i hi => hi⟩
  | p :: l, st, h1, h2 => by
    rw [List.foldl_cons]
    obtain ⟨hp, h2'⟩ := List.pairwise_cons.mp h2
    have pl := h1 p List.mem_cons_self
    by_cases c : p.2.2 = st.1 ∧ dueR rows p.1 ≤ D
    · have e : crowdS rows D st p = (p.2.1, if p.1 ∈ st.2 then st.2 else st.2 ++ [p.1]) := by unfold crowdS; rw [if_pos c]
      rw [e]
      have I := crowd_inv (rows := rows) (D := D) l (p.2.1, if p.1 ∈ st.2 then st.2 else st.2 ++ [p.1]) (fun q hq => h1 q (List.mem_cons_of_mem _ hq)) h2'
      have inn : p.1 ∈ (if p.1 ∈ st.2 then st.2 else st.2 ++ [p.1]) := by split <;> simp_all
      have old : ∀ i ∈ st.2, i ∈ (if p.1 ∈ st.2 then st.2 else st.2 ++ [p.1]) := fun i hi => by split <;> simp_all
      generalize (l.foldl (crowdS rows D) (p.2.1, if p.1 ∈ st.2 then st.2 else st.2 ++ [p.1])).1 = t0 at *
      generalize hf : (l.foldl (crowdS rows D) (p.2.1, if p.1 ∈ st.2 then st.2 else st.2 ++ [p.1])).2 = f at *
      have i1 : t0 ≤ p.2.1 := I.le
      refine ⟨by omega, fun t t1 t2 => ?_, fun i hi => ?_, fun q hq eq => ?_, ?_, fun i hi => I.sb i (old i hi)⟩
      · by_cases ct : t < p.2.1
        · obtain ⟨q, hq, k⟩ := I.cv t t1 ct
          exact ⟨q, List.mem_cons_of_mem _ hq, k⟩
        · exact ⟨p, List.mem_cons_self, by omega, by omega, c.2, I.sb _ inn⟩
      · rcases I.mm i hi with h | ⟨q, hq, k1, k2, k3, k4⟩
        · have h : i ∈ (if p.1 ∈ st.2 then st.2 else st.2 ++ [p.1]) := h
          by_cases c5 : i ∈ st.2
          · exact .inl c5
          · have : i = p.1 := by
              split at h
              · exact absurd h c5
              · rcases List.mem_append.mp h with h | h
                · exact absurd h c5
                · exact List.mem_singleton.mp h
            subst this
            exact .inr ⟨p, List.mem_cons_self, rfl, i1, by omega, c.2⟩
        · exact .inr ⟨q, List.mem_cons_of_mem _ hq, k1, k2, by have k3 : q.2.2 ≤ p.2.1 := k3; omega, k4⟩
      · rcases List.mem_cons.mp hq with rfl | hq
        · omega
        · exact I.cl q hq eq
      · rcases I.bg with h | ⟨q, hq, k⟩
        · exact .inr ⟨p, List.mem_cons_self, h.symm⟩
        · exact .inr ⟨q, List.mem_cons_of_mem _ hq, k⟩
    · have e : crowdS rows D st p = st := by unfold crowdS; rw [if_neg c]
      rw [e]
      have I := crowd_inv (rows := rows) (D := D) l st (fun q hq => h1 q (List.mem_cons_of_mem _ hq)) h2'
      generalize (l.foldl (crowdS rows D) st).1 = t0 at *
      generalize (l.foldl (crowdS rows D) st).2 = f at *
      refine ⟨I.le, fun t t1 t2 => ?_, fun i hi => ?_, fun q hq eq => ?_, ?_, I.sb⟩
      · obtain ⟨q, hq, k⟩ := I.cv t t1 t2
        exact ⟨q, List.mem_cons_of_mem _ hq, k⟩
      · rcases I.mm i hi with h | ⟨q, hq, k⟩
        · exact .inl h
        · exact .inr ⟨q, List.mem_cons_of_mem _ hq, k⟩
      · rcases List.mem_cons.mp hq with rfl | hq
        · rcases I.bg with h | ⟨q2, hq2, k⟩
          · exact Int.not_le.mp fun z => c ⟨by omega, z⟩
          · have a := hp q2 hq2
            have b := h1 q2 (List.mem_cons_of_mem _ hq2)
            omega
        · exact I.cl q hq eq
      · rcases I.bg with h | ⟨q, hq, k⟩
        · exact .inl h
        · exact .inr ⟨q, List.mem_cons_of_mem _ hq, k⟩
def inB (ms : List Int) : Option Nat → Bool
  | some n => decide ((n : Int) ∈ ms)
  | none => false
theorem one_sum {n : Nat} : ∀ {ms : List Int}, ms.Nodup → (∀ i ∈ ms, 0 ≤ i) → (ms.map fun i => if n = i.toNat then (1 : Int) else 0).sum = if (n : Int) ∈ ms then 1 else 0
  | [], _, _ => by simp
  | m :: ms, h, h0 => by
    obtain ⟨h1, h2⟩ := List.nodup_cons.mp h
    have m0 := h0 m List.mem_cons_self
    have ih := one_sum (n := n) h2 fun i hi => h0 i (List.mem_cons_of_mem _ hi)
    rw [List.map_cons, List.sum_cons, ih]
    by_cases c : n = m.toNat
    · have e : (n : Int) = m := by omega
      rw [if_pos c, if_neg (by rw [e]; exact h1), if_pos (by rw [e]; exact List.mem_cons_self)]; rfl
    · have e : ¬ (n : Int) = m := by omega
      rw [if_neg c]
      by_cases c2 : (n : Int) ∈ ms
      · rw [if_pos c2, if_pos (List.mem_cons_of_mem _ c2)]; rfl
      · rw [if_neg c2, if_neg (fun z => by rcases List.mem_cons.mp z with z | z; exact e z; exact c2 z)]; rfl
theorem cnt_cons (o : Option Nat) (w : Hs) (i : Nat) : cnt (o :: w) i = cnt w i + if o = some i then 1 else 0 := by
  unfold cnt
  rw [List.count_cons]
  by_cases c : o = some i
  · subst c; simp
  · simp [c]
theorem map_add_sum {α : Type} (f g : α → Int) : ∀ l : List α, (l.map fun x => f x + g x).sum = (l.map f).sum + (l.map g).sum
  | [] => rfl
  | x :: l => by
    simp only [List.map_cons, List.sum_cons, map_add_sum f g l]
    omega
theorem sum_cnt {ms : List Int} (nd : ms.Nodup) (h0 : ∀ i ∈ ms, 0 ≤ i) : ∀ w : Hs, (ms.map fun i => cnt w i.toNat).sum = ((w.filter (inB ms)).length : Int)
  | [] => by
    have : (ms.map fun i => cnt [] i.toNat) = ms.map fun _ => (0 : Int) := List.map_congr_left fun i _ => by unfold cnt; rw [List.count_nil]; rfl
    rw [this]
    clear this nd h0
    induction ms with
    | nil => rfl
    | cons m ms ih => rw [List.map_cons, List.sum_cons, ih]; rfl
  | o :: w => by
    have ih := sum_cnt nd h0 w
    have e : (ms.map fun i => cnt (o :: w) i.toNat) = ms.map fun i => cnt w i.toNat + if o = some i.toNat then (1 : Int) else 0 := List.map_congr_left fun i _ => cnt_cons o w i.toNat
    rw [e, map_add_sum, ih, List.filter_cons]
    cases o with
    | none =>
      have z : (ms.map fun i => if (none : Option Nat) = some i.toNat then (1 : Int) else 0).sum = 0 := by
        clear e ih nd h0
        induction ms with
        | nil => rfl
        | cons m ms ih => rw [List.map_cons, List.sum_cons, ih]; simp
      rw [z]
      show _ = (((if false = true then _ else w.filter (inB ms)) : Hs).length : Int)
      rw [if_neg (by decide)]
      omega
    | some n =>
      have z : (ms.map fun i => if some n = some i.toNat then (1 : Int) else 0).sum = if (n : Int) ∈ ms then 1 else 0 := by
        rw [← one_sum nd h0]
        congr 1
        exact List.map_congr_left fun i _ => by simp only [Option.some.injEq]
      rw [z]
      by_cases c : (n : Int) ∈ ms
      · have b : inB ms (some n) = true := decide_eq_true c
        rw [if_pos c, if_pos b, List.length_cons]; omega
      · have b : ¬ inB ms (some n) = true := fun z => c (of_decide_eq_true z)
        rw [if_neg c, if_neg b]; omega
theorem filter_len {q : Option Nat → Bool} {t0 e : Nat} (le : t0 ≤ e) : ∀ (w : Hs) (off : Nat), (∀ (t : Nat) (o : Option Nat), w[t]? = some o → (q o = true ↔ t0 ≤ off + t ∧ off + t < e)) → (w.filter q).length = min e (off + w.length) - max t0 (min e off)
  | [], off, _ => by
    show 0 = min e (off + 0) - max t0 (min e off)
    omega
  | o :: w, off, h => by
    have ih := filter_len le w (off + 1) fun t o2 e2 => by
      have := h (t + 1) o2 (by simpa using e2)
      rw [show off + 1 + t = off + (t + 1) by omega]; exact this
    have h0 := h 0 o rfl
    rw [List.filter_cons, List.length_cons]
    by_cases c : q o = true
    · have := h0.mp c
      rw [if_pos c, List.length_cons, ih]; omega
    · have : ¬ (t0 ≤ off + 0 ∧ off + 0 < e) := fun z => c (h0.mpr z)
      rw [if_neg c, ih]; omega
theorem pw_two {P : List Pc} (pw : P.Pairwise fun p q => p.2.2 ≤ q.2.1) {p q : Pc} (hp : p ∈ P) (hq : q ∈ P) : p = q ∨ p.2.2 ≤ q.2.1 ∨ q.2.2 ≤ p.2.1 := by
  induction P with
  | nil => cases hp
  | cons x P ih =>
    obtain ⟨h1, h2⟩ := List.pairwise_cons.mp pw
    rcases List.mem_cons.mp hp with ep | hp
    · rcases List.mem_cons.mp hq with eq | hq
      · exact .inl (ep.trans eq.symm)
      · exact .inr (.inl (by rw [ep]; exact h1 q hq))
    · rcases List.mem_cons.mp hq with eq | hq
      · exact .inr (.inr (by rw [eq]; exact h1 p hp))
      · exact ih h2 hp hq
def firR (rows : Rows) (i : Int) : Int := (atR rows i).2.1
theorem minL_is {l : List Int} {x : Int} (m : x ∈ l) (h : ∀ y ∈ l, x ≤ y) : minL l = x := by
  have ne : l ≠ [] := fun z => by rw [z] at m; cases m
  obtain ⟨a, b⟩ := minL_mem l ne
  have := h _ a
  have := b _ m
  omega
theorem maxL_is {l : List Int} {x : Int} (m : x ∈ l) (h : ∀ y ∈ l, y ≤ x) : maxL l = x := by
  have ne : l ≠ [] := fun z => by rw [z] at m; cases m
  obtain ⟨a, b⟩ := maxL_mem l ne
  have := h _ a
  have := b _ m
  omega
theorem cnt_take_lt {w : Hs} {t u i : Nat} (h : t ≤ u) (e : w[u]? = some (some i)) : cnt (w.take t) i < cnt w i := by
  have a : w = w.take t ++ w.drop t := (List.take_append_drop t w).symm
  have b : cnt w i = cnt (w.take t) i + cnt (w.drop t) i := by conv => lhs; rw [a, cnt_app]
  have m : some i ∈ w.drop t := by
    refine List.mem_iff_getElem?.mpr ⟨u - t, ?_⟩
    rw [List.getElem?_drop, show t + (u - t) = u by omega]; exact e
  have c : 0 < cnt (w.drop t) i := by
    unfold cnt
    have := List.count_pos_iff.mpr m
    omega
  omega
/-- one that is there and not done is not left for one with a greater BY -/
theorem pick_le {rows : Rows} {w : Hs} {t u i : Nat} {r : Row} {o : Option Nat} (F : ∀ (t : Nat) (o : Option Nat), w[t]? = some o → o = pick rows (w.take t)) (full : cnt w i = r.1) (er : rows[i]? = some r) (et : w[t]? = some o) (eu : w[u]? = some (some i)) (h : t ≤ u) (hf : r.2.1 ≤ (t : Int)) : ∃ j r2, o = some j ∧ rows[j]? = some r2 ∧ (r2.2.2.1 < r.2.2.1 ∨ (r2.2.2.1 = r.2.2.1 ∧ j ≤ i)) := by
  have lt := cnt_take_lt h eu
  have tl : t < w.length := (List.getElem?_eq_some_iff.mp et).1
  have lh : (stH rows (w.take t)).hour = (t : Int) := by
    show (((w.take t).length : Nat) : Int) = _
    rw [List.length_take, Nat.min_eq_left (by omega)]
  have m : (r.2.2.1, (i : Int)) ∈ someF rows (stH rows (w.take t)) := some_mem.mpr ⟨i, r, rfl, er, rfl, by rw [stH_lf er]; omega, by rw [lh]; exact hf⟩
  have eo := F t o et
  unfold pick at eo
  cases hw : whoF rows (stH rows (w.take t)) with
  | none => rw [who_none hw] at m; cases m
  | some n =>
    rw [hw] at eo
    obtain ⟨d, md, ml⟩ := who_some hw
    obtain ⟨j, r2, rfl, er2, ed, _, _⟩ := some_mem.mp md
    rw [Option.map_some, Int.toNat_natCast] at eo
    refine ⟨j, r2, eo, er2, ?_⟩
    have a : d < r.2.2.1 ∨ (d = r.2.2.1 ∧ (j : Int) ≤ (i : Int)) := ml _ m
    omega
theorem late_at {rows : Rows} {s : St} {i : Nat} {r : Row} {e : Int} (er : rows[i]? = some r) (ed : s.done[i]? = some e) : (lateL rows s)[i]? = some (e - r.2.2.1) := by
  unfold lateL
  have e0 : (s.done.zip rows)[i]? = some (e, r) := List.getElem?_zip_eq_some.mpr ⟨ed, er⟩
  rw [List.getElem?_map, e0]; rfl
theorem crowd_shows {rows : Rows} (good : ∀ p ∈ rows, GoodRow p) {s : St} {w : Hs} {last : Nat} {e : Int} {ms : List Int} (T : Told rows s last e) (F : Fin rows s w) (pm : ms.Perm (crowdF rows s.pcs last e)) :
    ms ≠ [] ∧ ms.Nodup ∧ (∀ i ∈ ms, 0 ≤ i ∧ i < (rows.length : Int)) ∧ minL (ms.map (firR rows)) + (ms.map (lenR rows)).sum - maxL (ms.map (dueR rows)) = maxL (lateL rows s) := by
  have P := pcOk w
  rw [← F.pc] at P
  obtain ⟨en, dn1, dn2, dn3, dn4⟩ := F.dn last T.l
  have le := T.le
  rw [dn1] at le
  cases le
  obtain ⟨rl, erl⟩ : ∃ r, rows[last]? = some r := ⟨_, List.getElem?_eq_getElem T.l⟩
  have dl : dueR rows (last : Int) = rl.2.2.1 := by unfold dueR; rw [atR_nat erl]
  have ltm : maxL (lateL rows s) = (en : Int) - rl.2.2.1 := by
    have a := late_at erl dn1
    rw [T.ll] at a
    exact Option.some.inj a
  have lts : ∀ (i : Nat) (r : Row) (d : Int), rows[i]? = some r → s.done[i]? = some d → d - r.2.2.1 ≤ (en : Int) - rl.2.2.1 := fun i r d a b => by
    rw [← ltm]
    exact le_maxL (List.mem_of_getElem? (late_at a b))
  have I := crowd_inv (rows := rows) (D := dueR rows (last : Int)) s.pcs.reverse ((en : Int), []) (fun p hp => by
    obtain ⟨i, a, b, rfl, h, _⟩ := P.fm p (List.mem_reverse.mp hp)
    show (a : Int) < (b : Int); omega) (List.pairwise_reverse.mpr P.pw)
  have pr : ∀ i ∈ crowdF rows s.pcs (last : Int) (en : Int), 0 ≤ i ∧ i < (rows.length : Int) := fun i hi => by
    unfold crowdF at hi
    rcases I.mm i hi with h | ⟨p, hp, rfl, _⟩
    · cases h
    · obtain ⟨j, a, b, rfl, lab, lb, hw⟩ := P.fm p (List.mem_reverse.mp hp)
      obtain ⟨r, er, _⟩ := F.inr a j (hw a (Nat.le_refl _) lab)
      have := (List.getElem?_eq_some_iff.mp er).1
      exact ⟨Int.natCast_nonneg _, by show (j : Int) < _; omega⟩
  have nd := (crowd_nd (rows := rows) (due := dueR rows (last : Int)) (n := rows.length) (l := s.pcs.reverse) (st := ((en : Int), [])) (fun p hp => by
    obtain ⟨j, a, b, rfl, lab, lb, hw⟩ := P.fm p (List.mem_reverse.mp hp)
    obtain ⟨r, er, _⟩ := F.inr a j (hw a (Nat.le_refl _) lab)
    have := (List.getElem?_eq_some_iff.mp er).1
    exact ⟨Int.natCast_nonneg _, by show (j : Int) < _; omega⟩) List.nodup_nil fun i hi => (nomatch hi)).1
  have ndm : ms.Nodup := pm.nodup_iff.mpr nd
  have prm : ∀ i ∈ ms, 0 ≤ i ∧ i < (rows.length : Int) := fun i hi => pr i (pm.mem_iff.mp hi)
  have memf : ∀ i, i ∈ ms ↔ i ∈ (s.pcs.reverse.foldl (crowdS rows (dueR rows (last : Int))) ((en : Int), [])).2 := fun i => pm.mem_iff
  generalize hF : (s.pcs.reverse.foldl (crowdS rows (dueR rows (last : Int))) ((en : Int), [])).2 = f at *
  generalize (s.pcs.reverse.foldl (crowdS rows (dueR rows (last : Int))) ((en : Int), [])).1 = t1 at *
  -- the last one's piece
  obtain ⟨pl, hpl, l1, l2, l3⟩ := P.cv (en - 1) last dn3
  have l4 : pl.2.2 = (en : Int) := by
    obtain ⟨i, a, b, rfl, lab, lb, hw⟩ := P.fm pl hpl
    have ei : i = last := Int.ofNat.inj l1
    subst ei
    have l3 : ((en - 1 : Nat) : Int) < (b : Int) := l3
    show (b : Int) = (en : Int)
    have : ¬ en < b := fun z => dn4 (b - 1) (by omega) (hw (b - 1) (by omega) (by omega))
    omega
  have lt1 : t1 < (en : Int) := by
    rcases I.bg with h | ⟨p, hp, h⟩
    · have := I.cl pl (List.mem_reverse.mpr hpl) (by rw [l4, h])
      rw [l1] at this
      omega
    · obtain ⟨q, hq, k1, k2, _⟩ : ∃ q, q ∈ s.pcs.reverse ∧ t1 = q.2.1 ∧ t1 ≤ (en : Int) ∧ True := ⟨p, hp, h.symm, I.le, trivial⟩
      rcases Int.lt_or_eq_of_le k2 with z | z
      · exact z
      · have := I.cl pl (List.mem_reverse.mpr hpl) (by rw [l4, z])
        rw [l1] at this
        omega
  obtain ⟨pb, hpb, eb⟩ : ∃ p ∈ s.pcs.reverse, p.2.1 = t1 := by
    rcases I.bg with h | h
    · have h : t1 = (en : Int) := h
      omega
    · exact h
  obtain ⟨ib, t0, bb, epb, lab, lbb, hwb⟩ := P.fm pb (List.mem_reverse.mp hpb)
  have et : t1 = (t0 : Int) := by rw [← eb, epb]
  subst et
  have lte : t0 < en := by omega
  have enl : en ≤ w.length := by have := (List.getElem?_eq_some_iff.mp dn3).1; omega
  -- (A)
  have hA : ∀ t, t0 ≤ t → t < en → ∃ i : Nat, w[t]? = some (some i) ∧ (i : Int) ∈ f ∧ dueR rows (i : Int) ≤ dueR rows (last : Int) := fun t h1 h2 => by
    obtain ⟨p, hp, k1, k2, k3, k4⟩ := I.cv (t : Int) (by omega) (by show (t : Int) < (en : Int); omega)
    obtain ⟨i, a, b, rfl, _, _, hw⟩ := P.fm p (List.mem_reverse.mp hp)
    have k1 : (a : Int) ≤ (t : Int) := k1
    have k2 : (t : Int) < (b : Int) := k2
    exact ⟨i, hw t (by omega) (by omega), k4, k3⟩
  have hB : ∀ i : Nat, (i : Int) ∈ f → (∃ t, t0 ≤ t ∧ t < en ∧ w[t]? = some (some i)) ∧ dueR rows (i : Int) ≤ dueR rows (last : Int) := fun i hi => by
    rcases I.mm (i : Int) hi with h | ⟨p, hp, k1, k2, k3, k4⟩
    · cases h
    · obtain ⟨j, a, b, rfl, lab, lb, hw⟩ := P.fm p (List.mem_reverse.mp hp)
      have k2 : (t0 : Int) ≤ (a : Int) := k2
      have k3 : (b : Int) ≤ (en : Int) := k3
      have ej : j = i := Int.ofNat.inj k1
      subst ej
      exact ⟨⟨a, by omega, by omega, hw a (Nat.le_refl _) lab⟩, k4⟩
  have hC : ∀ j : Nat, 0 < t0 → w[t0 - 1]? = some (some j) → dueR rows (last : Int) < dueR rows (j : Int) := fun j t0p ej => by
    obtain ⟨p, hp, k1, k2, k3⟩ := P.cv (t0 - 1) j ej
    have := I.cl p (List.mem_reverse.mpr hp)
    rw [k1] at this
    refine this ?_
    rcases pw_two P.pw hp (List.mem_reverse.mp hpb) with z | z | z
    · subst z
      rw [eb] at k2
      omega
    · rw [eb] at z
      have k3 : ((t0 - 1 : Nat) : Int) < p.2.2 := k3
      omega
    · rw [epb] at z
      have z : (bb : Int) ≤ p.2.1 := z
      omega
  have hD : ∀ (i : Nat) (r : Row), (i : Int) ∈ f → rows[i]? = some r → (t0 : Int) ≤ r.2.1 := fun i r hi er => by
    apply Int.not_lt.mp
    intro lt
    obtain ⟨⟨u, u1, u2, eu⟩, du⟩ := hB i hi
    by_cases z0 : t0 = 0
    · have := (good r (List.mem_of_getElem? er)).2.1
      omega
    · obtain ⟨o, eo⟩ : ∃ o, w[t0 - 1]? = some o := ⟨_, List.getElem?_eq_getElem (by omega)⟩
      obtain ⟨j, r2, rfl, er2, lr⟩ := pick_le F.edf (F.cn i r er) er eo eu (by omega) (by omega)
      have := hC j (by omega) eo
      have a : dueR rows (j : Int) = r2.2.2.1 := by unfold dueR; rw [atR_nat er2]
      have b : dueR rows (i : Int) = r.2.2.1 := by unfold dueR; rw [atR_nat er]
      omega
  have hE : ∀ (i : Nat) (r : Row) (t : Nat), (i : Int) ∈ f → rows[i]? = some r → w[t]? = some (some i) → t0 ≤ t ∧ t < en := fun i r t hi er et => by
    obtain ⟨r', er', h'⟩ := F.inr t i et
    rw [er] at er'
    cases er'
    have d1 := hD i r hi er
    obtain ⟨d, e1, e2, e3, e4⟩ := F.dn i (List.getElem?_eq_some_iff.mp er).1
    have l1 := lts i r d er e1
    have b : dueR rows (i : Int) = r.2.2.1 := by unfold dueR; rw [atR_nat er]
    have c := (hB i hi).2
    have : ¬ d ≤ t := fun z => e4 t z et
    omega
  have row : ∀ i ∈ ms, ∃ r, rows[i.toNat]? = some r ∧ atR rows i = r := fun i hi => by
    obtain ⟨h0, h1⟩ := prm i hi
    exact ⟨_, rows_get h0 h1, rfl⟩
  have sm : (ms.map (lenR rows)).sum = (en : Int) - (t0 : Int) := by
    have e1 : ms.map (lenR rows) = ms.map fun i => cnt w i.toNat := List.map_congr_left fun i hi => by
      obtain ⟨r, er, ea⟩ := row i hi
      rw [F.cn i.toNat r er]
      unfold lenR
      rw [ea]
    rw [e1, sum_cnt ndm (fun i hi => (prm i hi).1) w, filter_len (t0 := t0) (e := en) (by omega) w 0 fun t o et => ?_]
    · omega
    · rw [Nat.zero_add]
      constructor
      · intro h
        cases o with
        | none => cases h
        | some i =>
          have m : (i : Int) ∈ ms := of_decide_eq_true h
          obtain ⟨r, er, _⟩ := F.inr t i et
          exact hE i r t ((memf _).mp m) er et
      · rintro ⟨h1, h2⟩
        obtain ⟨i, ei, mi, _⟩ := hA t h1 h2
        rw [et] at ei
        cases ei
        exact decide_eq_true ((memf _).mpr mi)
  have ml : (last : Int) ∈ ms := by
    obtain ⟨i, ei, mi, _⟩ := hA (en - 1) (by omega) (by omega)
    rw [dn3] at ei
    cases ei
    exact (memf _).mpr mi
  obtain ⟨ia, ea, ma, _⟩ := hA t0 (Nat.le_refl _) lte
  obtain ⟨ra, era, fa⟩ := F.inr t0 ia ea
  have mx : maxL (ms.map (dueR rows)) = dueR rows (last : Int) := by
    refine maxL_is (List.mem_map.mpr ⟨_, ml, rfl⟩) fun y hy => ?_
    obtain ⟨i, hi, rfl⟩ := List.mem_map.mp hy
    have h0 := (prm i hi).1
    have := (hB i.toNat (by rw [show ((i.toNat : Nat) : Int) = i by omega]; exact (memf i).mp hi)).2
    rw [show ((i.toNat : Nat) : Int) = i by omega] at this
    exact this
  have mn : minL (ms.map (firR rows)) = (t0 : Int) := by
    have low : ∀ y ∈ ms.map (firR rows), (t0 : Int) ≤ y := fun y hy => by
      obtain ⟨i, hi, rfl⟩ := List.mem_map.mp hy
      obtain ⟨r, er, ea⟩ := row i hi
      have h0 := (prm i hi).1
      have := hD i.toNat r (by rw [show ((i.toNat : Nat) : Int) = i by omega]; exact (memf i).mp hi) er
      show (t0 : Int) ≤ (atR rows i).2.1
      rw [ea]; exact this
    have m0 : ra.2.1 ∈ ms.map (firR rows) := List.mem_map.mpr ⟨(ia : Int), (memf _).mpr ma, by unfold firR; rw [atR_nat era]⟩
    have := low _ m0
    have e : ra.2.1 = (t0 : Int) := by omega
    rw [← e]
    rw [← e] at low
    exact minL_is m0 low
  refine ⟨fun z => by rw [z] at ml; (cases ml), ndm, prm, ?_⟩
  rw [sm, mx, mn, ltm, dl]
  omega
end Law

/-! k33xd: hours are told by the rows alone; the same some hours later (plain law) -/
namespace Law
open PySem Z Com
structure HOk (rows : Rows) (w : Hs) : Prop where
  cn : ∀ (i : Nat) (r : Row), rows[i]? = some r → cnt w i = r.1
  edf : ∀ (t : Nat) (o : Option Nat), w[t]? = some o → o = pick rows (w.take t)
  lst : ∃ (i : Nat) (r : Row), w[w.length - 1]? = some (some i) ∧ rows[i]? = some r
theorem Fin.h {rows : Rows} {s : St} {w : Hs} (F : Fin rows s w) (ne : rows ≠ []) : HOk rows w := by
  obtain ⟨i, e⟩ := F.lst ne
  obtain ⟨r, er, _⟩ := F.inr _ i e
  exact ⟨F.cn, F.edf, i, r, e, er⟩
theorem take_one {w : Hs} {t : Nat} {o : Option Nat} (e : w[t]? = some o) : w.take (t + 1) = w.take t ++ [o] := by
  rw [List.take_succ, e]; rfl
theorem HOk.pre {rows : Rows} {u w : Hs} (U : HOk rows u) (W : HOk rows w) : ∀ t, t ≤ u.length → t ≤ w.length → u.take t = w.take t
  | 0, _, _ => by rw [List.take_zero, List.take_zero]
  | t + 1, h1, h2 => by
    have ih := HOk.pre U W t (by omega) (by omega)
    have e1 : u[t]? = some (u[t]'(by omega)) := List.getElem?_eq_getElem (by omega)
    have e2 : w[t]? = some (w[t]'(by omega)) := List.getElem?_eq_getElem (by omega)
    generalize u[t]'(by omega) = a at e1
    generalize w[t]'(by omega) = b at e2
    rw [take_one e1, take_one e2, ih]
    have p1 := U.edf t a e1
    have p2 := W.edf t b e2
    rw [p1, p2, ih]
theorem HOk.le {rows : Rows} {u w : Hs} (U : HOk rows u) (W : HOk rows w) : w.length ≤ u.length := by
  apply Nat.not_lt.mp
  intro lt
  have p := U.pre W u.length (Nat.le_refl _) (by omega)
  rw [List.take_length] at p
  obtain ⟨i, r, e, er⟩ := W.lst
  have a := cnt_take_lt (t := u.length) (u := w.length - 1) (by omega) e
  rw [← p, U.cn i r er, W.cn i r er] at a
  omega
theorem HOk.same {rows : Rows} {u w : Hs} (U : HOk rows u) (W : HOk rows w) : u = w := by
  have a := U.le W
  have b := W.le U
  have p := U.pre W u.length (Nat.le_refl _) (by omega)
  rw [List.take_length, List.take_of_length_le (by omega)] at p
  exact p
theorem who_congr {rows rows2 : Rows} {s s2 : St} (h : ∀ d n, (d, n) ∈ someF rows s ↔ (d, n) ∈ someF rows2 s2) : whoF rows2 s2 = whoF rows s := by
  cases e : whoF rows s with
  | none =>
    refine none_is (List.eq_nil_iff_forall_not_mem.mpr fun y hy => ?_)
    have := (h y.1 y.2).mpr hy
    rw [who_none e] at this
    cases this
  | some n =>
    obtain ⟨d, m, l⟩ := who_some e
    exact who_is ((h d n).mp m) fun y hy => l y ((h y.1 y.2).mpr hy)
def shR (f : Nat) (r : Row) : Row := (r.1, r.2.1 + (f : Int), r.2.2.1, r.2.2.2)
def shP (f : Nat) (p : Pc) : Pc := (p.1, p.2.1 + (f : Int), p.2.2 + (f : Int))
theorem sh_get {rows : Rows} {f i : Nat} {r : Row} (e : rows[i]? = some r) : (rows.map (shR f))[i]? = some (shR f r) := by rw [List.getElem?_map, e]; rfl
theorem sh_get' {rows : Rows} {f i : Nat} {r : Row} (e : (rows.map (shR f))[i]? = some r) : ∃ r0, rows[i]? = some r0 ∧ r = shR f r0 := by
  rw [List.getElem?_map] at e
  cases h : rows[i]? with
  | none => rw [h] at e; cases e
  | some r0 => rw [h] at e; cases e; exact ⟨r0, rfl, rfl⟩
theorem pick_sh {rows : Rows} {f : Nat} {v : Hs} : pick (rows.map (shR f)) (List.replicate f none ++ v) = pick rows v := by
  unfold pick
  rw [who_congr (rows := rows) (s := stH rows v)]
  intro d n
  have lh : (stH (rows.map (shR f)) (List.replicate f none ++ v)).hour = (f : Int) + (v.length : Int) := by
    show (((List.replicate f none ++ v : Hs).length : Nat) : Int) = _
    rw [List.length_append, List.length_replicate]; omega
  have lc : ∀ i, cnt (List.replicate f none ++ v) i = cnt v i := fun i => by rw [cnt_app, cnt_none]; omega
  constructor
  · intro h
    obtain ⟨i, r, e1, e2, e3, h1, h2⟩ := some_mem.mp h
    have h2 : r.2.1 ≤ (v.length : Int) := h2
    rw [stH_lf e2] at h1
    refine some_mem.mpr ⟨i, shR f r, e1, sh_get e2, e3, ?_, ?_⟩
    · rw [stH_lf (sh_get e2), lc]; exact h1
    · rw [lh]
      show r.2.1 + (f : Int) ≤ _
      omega
  · intro h
    obtain ⟨i, r, e1, e2, e3, h1, h2⟩ := some_mem.mp h
    obtain ⟨r0, e4, rfl⟩ := sh_get' e2
    rw [stH_lf e2, lc] at h1
    rw [lh] at h2
    have h2 : r0.2.1 + (f : Int) ≤ _ := h2
    refine some_mem.mpr ⟨i, r0, e1, e4, e3, ?_, ?_⟩
    · rw [stH_lf e4]; exact h1
    · show r0.2.1 ≤ (v.length : Int)
      omega
theorem HOk.sh {rows : Rows} {w : Hs} (good : ∀ p ∈ rows, GoodRow p) (W : HOk rows w) (f : Nat) : HOk (rows.map (shR f)) (List.replicate f none ++ w) := by
  refine ⟨fun i r er => ?_, fun t o e => ?_, ?_⟩
  · obtain ⟨r0, e4, rfl⟩ := sh_get' er
    rw [cnt_app, cnt_none, W.cn i r0 e4]
    show 0 + r0.1 = r0.1
    omega
  · by_cases c : t < f
    · rw [List.getElem?_append_left (by rw [List.length_replicate]; exact c), List.getElem?_replicate, if_pos c] at e
      cases e
      rw [List.take_append_of_le_length (by rw [List.length_replicate]; omega), List.take_replicate, Nat.min_eq_left (by omega)]
      unfold pick
      rw [none_is, Option.map_none]
      refine List.eq_nil_iff_forall_not_mem.mpr fun y hy => ?_
      obtain ⟨i, r, _, er, _, _, h2⟩ := some_mem.mp (show (y.1, y.2) ∈ _ from hy)
      obtain ⟨r0, e4, rfl⟩ := sh_get' er
      have := (good r0 (List.mem_of_getElem? e4)).2.1
      have h2 : r0.2.1 + (f : Int) ≤ (((List.replicate t none : Hs).length : Nat) : Int) := h2
      rw [List.length_replicate] at h2
      omega
    · have lf : (List.replicate f none : Hs).length = f := List.length_replicate
      rw [List.getElem?_append_right (by omega), lf] at e
      rw [List.take_append, lf, List.take_of_length_le (by omega), pick_sh]
      exact W.edf _ o e
  · obtain ⟨i, r, e, er⟩ := W.lst
    have lt := (List.getElem?_eq_some_iff.mp e).1
    refine ⟨i, shR f r, ?_, sh_get er⟩
    rw [List.length_append, List.length_replicate, List.getElem?_append_right (by rw [List.length_replicate]; omega), List.length_replicate, show f + w.length - 1 - f = w.length - 1 by omega]
    exact e
theorem done_is {rows rows2 : Rows} {s s2 : St} {w : Hs} {f : Nat} (F : Fin rows s w) (G : Fin rows2 s2 (List.replicate f none ++ w)) (l : rows2.length = rows.length) : s2.done = s.done.map (· + (f : Int)) := by
  apply List.ext_getElem?
  intro i
  by_cases c : i < rows.length
  · obtain ⟨a, a1, a2, a3, a4⟩ := F.dn i c
    obtain ⟨b, b1, b2, b3, b4⟩ := G.dn i (by omega)
    rw [List.getElem?_map, a1, b1]
    show some (b : Int) = some ((a : Int) + (f : Int))
    have lf : (List.replicate f none : Hs).length = f := List.length_replicate
    have bf : f ≤ b - 1 := by
      apply Nat.not_lt.mp
      intro lt
      rw [List.getElem?_append_left (by omega), List.getElem?_replicate, if_pos lt] at b3
      cases b3
    rw [List.getElem?_append_right (by omega), lf] at b3
    have h1 : ¬ a ≤ b - 1 - f := fun z => a4 _ z b3
    have h2 : ¬ b ≤ a - 1 + f := fun z => b4 (a - 1 + f) z (by
      rw [List.getElem?_append_right (by omega), lf, Nat.add_sub_cancel]; exact a3)
    congr 1
    omega
  · rw [List.getElem?_map, List.getElem?_eq_none (by rw [G.dl]; omega), List.getElem?_eq_none (by rw [F.dl]; omega)]; rfl
theorem late_sh {rows : Rows} {s s2 : St} {f : Nat} (e : s2.done = s.done.map (· + (f : Int))) : lateL (rows.map (shR f)) s2 = (lateL rows s).map (· + (f : Int)) := by
  unfold lateL
  rw [e, List.zip_map, List.map_map, List.map_map]
  refine List.map_congr_left fun p _ => ?_
  show p.1 + (f : Int) - p.2.2.2.1 = p.1 - p.2.2.2.1 + (f : Int)
  omega
theorem maxL_add {l : List Int} (ne : l ≠ []) (x : Int) : maxL (l.map (· + x)) = maxL l + x := by
  obtain ⟨a, b⟩ := maxL_mem l ne
  refine maxL_is (List.mem_map.mpr ⟨_, a, rfl⟩) fun y hy => ?_
  obtain ⟨z, hz, rfl⟩ := List.mem_map.mp hy
  have := b z hz
  omega
theorem put_sh {h n b : Int} {f : Nat} {P : List Pc} : putF ⟨[], h + (f : Int), P.map (shP f), []⟩ n (b + (f : Int)) = (putF ⟨[], h, P, []⟩ n b).map (shP f) := by
  have none_ : P[P.length - 1]? = none → putF ⟨[], h + (f : Int), P.map (shP f), []⟩ n (b + (f : Int)) = (putF ⟨[], h, P, []⟩ n b).map (shP f) := fun e => by
    have e1 : putF ⟨[], h, P, []⟩ n b = P ++ [(n, h, b)] := by unfold putF; show (match P[P.length - 1]? with | some q => _ | none => _) = _; rw [e]
    have e2 : putF ⟨[], h + (f : Int), P.map (shP f), []⟩ n (b + (f : Int)) = P.map (shP f) ++ [(n, h + (f : Int), b + (f : Int))] := by unfold putF; show (match (P.map (shP f))[(P.map (shP f)).length - 1]? with | some q => _ | none => _) = _; rw [List.length_map, List.getElem?_map, e]; rfl
    rw [e1, e2, List.map_append]; rfl
  cases e : P[P.length - 1]? with
  | none => exact none_ e
  | some q =>
    have m2 : (P.map (shP f))[(P.map (shP f)).length - 1]? = some (shP f q) := by rw [List.length_map, List.getElem?_map, e]; rfl
    by_cases c : q.1 = n ∧ q.2.2 = h
    · have e1 : putF ⟨[], h, P, []⟩ n b = P.set (P.length - 1) (n, q.2.1, b) := by
        unfold putF
        show (match P[P.length - 1]? with | some q => if q.1 = n ∧ q.2.2 = h then _ else _ | none => _) = _
        rw [e]
        show (if _ then _ else _) = _
        rw [if_pos c]
      have e2 : putF ⟨[], h + (f : Int), P.map (shP f), []⟩ n (b + (f : Int)) = (P.map (shP f)).set ((P.map (shP f)).length - 1) (n, q.2.1 + (f : Int), b + (f : Int)) := by
        unfold putF
        show (match (P.map (shP f))[(P.map (shP f)).length - 1]? with | some q => if q.1 = n ∧ q.2.2 = h + (f : Int) then _ else _ | none => _) = _
        rw [m2]
        show (if _ then _ else _) = _
        rw [if_pos ⟨c.1, by show q.2.2 + (f : Int) = h + (f : Int); rw [c.2]⟩]
        rfl
      rw [e1, e2, List.map_set, List.length_map]; rfl
    · have e1 : putF ⟨[], h, P, []⟩ n b = P ++ [(n, h, b)] := by
        unfold putF
        show (match P[P.length - 1]? with | some q => if q.1 = n ∧ q.2.2 = h then _ else _ | none => _) = _
        rw [e]
        show (if _ then _ else _) = _
        rw [if_neg c]
      have e2 : putF ⟨[], h + (f : Int), P.map (shP f), []⟩ n (b + (f : Int)) = P.map (shP f) ++ [(n, h + (f : Int), b + (f : Int))] := by
        unfold putF
        show (match (P.map (shP f))[(P.map (shP f)).length - 1]? with | some q => if q.1 = n ∧ q.2.2 = h + (f : Int) then _ else _ | none => _) = _
        rw [m2]
        show (if _ then _ else _) = _
        rw [if_neg fun z => c ⟨z.1, by have z2 : q.2.2 + (f : Int) = h + (f : Int) := z.2; omega⟩]
      rw [e1, e2, List.map_append]; rfl
theorem pstep_sh {f k : Nat} {o : Option Nat} {P : List Pc} : pstep (P.map (shP f)) (o, k + f) = (pstep P (o, k)).map (shP f) := by
  cases o with
  | none => rfl
  | some n =>
    show putF ⟨[], ((k + f : Nat) : Int), P.map (shP f), []⟩ (n : Int) (((k + f : Nat) : Int) + 1) = (putF ⟨[], (k : Int), P, []⟩ (n : Int) ((k : Int) + 1)).map (shP f)
    rw [← put_sh]
    congr 1
    omega
theorem fold_sh {f : Nat} : ∀ (w : Hs) (k : Nat) (P : List Pc), (w.zipIdx (k + f)).foldl pstep (P.map (shP f)) = ((w.zipIdx k).foldl pstep P).map (shP f)
  | [], k, P => rfl
  | o :: w, k, P => by
    rw [List.zipIdx_cons, List.zipIdx_cons, List.foldl_cons, List.foldl_cons, pstep_sh, show k + f + 1 = k + 1 + f by omega]
    exact fold_sh w (k + 1) _
theorem runs_sh (w : Hs) (f : Nat) : runs (List.replicate f none ++ w) = (runs w).map (shP f) := by
  unfold runs
  rw [List.zipIdx_append, List.foldl_append]
  have e := runs_none [] f
  unfold runs at e
  rw [List.nil_append] at e
  rw [e, List.length_replicate]
  exact fold_sh w 0 []
theorem pc_lt (p q : Pc) : PySem.W.dataLt (pcD p) (pcD q) = decide ([p.1, p.2.1, p.2.2] < [q.1, q.2.1, q.2.2]) := by
  unfold pcD
  rw [PySem.W.dataLt_tuple]
  exact PySem.W.dataLt_ints [p.1, p.2.1, p.2.2] [q.1, q.2.1, q.2.2]
theorem srtT_sh (P : List Pc) (f : Nat) : (srtT P).map (shP f) = srtT (P.map (shP f)) := by
  unfold srtT
  refine PySem.W.sort_maps (shP f) fun a _ b _ => ?_
  show (!PySem.W.dataLt (pcD b) (pcD a)) = (!PySem.W.dataLt (pcD (shP f b)) (pcD (shP f a)))
  rw [pc_lt, pc_lt]
  congr 2
  apply propext
  simp only [List.cons_lt_cons_iff, shP]
  constructor
  · rintro (h | ⟨h1, h | ⟨h2, h | ⟨h3, h⟩⟩⟩)
    · exact .inl h
    · exact .inr ⟨h1, .inl (by omega)⟩
    · exact .inr ⟨h1, .inr ⟨by omega, .inl (by omega)⟩⟩
    · exact absurd h (List.lt_irrefl _)
  · rintro (h | ⟨h1, h | ⟨h2, h | ⟨h3, h⟩⟩⟩)
    · exact .inl h
    · exact .inr ⟨h1, .inl (by omega)⟩
    · exact .inr ⟨h1, .inr ⟨by omega, .inl (by omega)⟩⟩
    · exact absurd h (List.lt_irrefl _)
/-- what the pieces' ends tell -/
theorem ends_is {rows : Rows} {s : St} {w : Hs} (F : Fin rows s w) {i : Nat} (h : i < rows.length) {Q : List Pc} (pm : Q.Perm s.pcs) : ((Q.filter fun p => p.1 == (i : Int)).map (·.2.2)) ≠ [] ∧ s.done[i]? = some (maxL ((Q.filter fun p => p.1 == (i : Int)).map (·.2.2))) := by
  have P := pcOk w
  rw [← F.pc] at P
  obtain ⟨e, e1, e2, e3, e4⟩ := F.dn i h
  obtain ⟨p, hp, p1, p2, p3⟩ := P.cv (e - 1) i e3
  have top : ∀ q ∈ s.pcs, q.1 = (i : Int) → q.2.2 ≤ (e : Int) := fun q hq eq => by
    obtain ⟨j, a, b, rfl, lab, lb, hw⟩ := P.fm q hq
    have ej : j = i := Int.ofNat.inj eq
    subst ej
    show (b : Int) ≤ (e : Int)
    have : ¬ e < b := fun z => e4 (b - 1) (by omega) (hw (b - 1) (by omega) (by omega))
    omega
  have pe : p.2.2 = (e : Int) := by
    have := top p hp p1
    omega
  have m : (e : Int) ∈ (Q.filter fun p => p.1 == (i : Int)).map (·.2.2) := List.mem_map.mpr ⟨p, List.mem_filter.mpr ⟨pm.mem_iff.mpr hp, beq_iff_eq.mpr p1⟩, pe⟩
  refine ⟨fun z => by rw [z] at m; (cases m), ?_⟩
  rw [e1, maxL_is m fun y hy => ?_]
  obtain ⟨q, hq, rfl⟩ := List.mem_map.mp hy
  obtain ⟨hq, c⟩ := List.mem_filter.mp hq
  exact top q (pm.mem_iff.mp hq) (beq_iff_eq.mp c)
theorem perm_eq {l m : List Int} (p : l.Perm m) (a : l.Pairwise (· ≤ ·)) (b : m.Pairwise (· ≤ ·)) : l = m := p.eq_of_pairwise (fun x y _ _ h1 h2 => by omega) a b
/-- two that are told are the same -/
theorem told_same {rows : Rows} (good : ∀ p ∈ rows, GoodRow p) (ne : rows ≠ []) {s s2 : St} {w : Hs} {last last2 : Nat} {e e2 : Int} (T : Told rows s last e) (F : Fin rows s w) (T2 : Told rows s2 last2 e2) : maxL (lateL rows s2) = maxL (lateL rows s) ∧ s2.pcs = s.pcs ∧ ∀ ms ms2 : List Int, ms.Perm (crowdF rows s.pcs last e) → ms.Pairwise (· ≤ ·) → ms2.Perm (crowdF rows s2.pcs last2 e2) → ms2.Pairwise (· ≤ ·) → ms2 = ms := by
  obtain ⟨w2, F2⟩ := fin_of good T2.r T2.g
  have ew : w2 = w := (F2.h ne).same (F.h ne)
  subst ew
  have dn : s2.done = s.done.map (· + ((0 : Nat) : Int)) := done_is F (by rw [List.replicate_zero, List.nil_append]; exact F2) rfl
  have dn : s2.done = s.done := by
    rw [dn]
    have : (fun x : Int => x + ((0 : Nat) : Int)) = id := funext fun x => by show x + 0 = x; omega
    rw [this, List.map_id]
  have pc : s2.pcs = s.pcs := by rw [F2.pc, F.pc]
  have ll : lateL rows s2 = lateL rows s := by unfold lateL; rw [dn]
  have la : last2 = last := by
    have a1 := T.ll
    have a2 := T2.ll
    rw [ll] at a2
    rcases Nat.lt_trichotomy last2 last with z | z | z
    · exact absurd a2 (T.f _ z)
    · exact z
    · have := T2.f _ z
      rw [ll] at this
      exact absurd a1 this
  subst la
  have ee : e2 = e := by
    have a1 := T.le
    have a2 := T2.le
    rw [dn, a1] at a2
    exact (Option.some.inj a2).symm
  subst ee
  refine ⟨by rw [ll], pc, fun ms ms2 p1 o1 p2 o2 => ?_⟩
  rw [pc] at p2
  exact perm_eq (p2.trans p1.symm) o2 o1
/-- the same some hours later -/
theorem told_sh {rows : Rows} (good : ∀ p ∈ rows, GoodRow p) (ne : rows ≠ []) {s s2 : St} {w : Hs} {f last2 : Nat} {e2 : Int} (good2 : ∀ p ∈ rows.map (shR f), GoodRow p) (F : Fin rows s w) (T2 : Told (rows.map (shR f)) s2 last2 e2) : maxL (lateL (rows.map (shR f)) s2) = maxL (lateL rows s) + (f : Int) ∧ srtT s2.pcs = (srtT s.pcs).map (shP f) := by
  obtain ⟨w2, F2⟩ := fin_of good2 T2.r T2.g
  have ne2 : rows.map (shR f) ≠ [] := fun z => ne (List.map_eq_nil_iff.mp z)
  have ew : w2 = List.replicate f none ++ w := (F2.h ne2).same ((F.h ne).sh good f)
  subst ew
  have dn := done_is F F2 (List.length_map ..)
  have lne : lateL rows s ≠ [] := fun z => by
    have : (lateL rows s).length = rows.length := by unfold lateL; rw [List.length_map, List.length_zip, F.dl, Nat.min_self]
    rw [z] at this
    exact ne (List.eq_nil_of_length_eq_zero this.symm)
  refine ⟨by rw [late_sh dn, maxL_add lne], ?_⟩
  rw [F2.pc, runs_sh, ← F.pc, srtT_sh]
end Law

/-! k33xe: the law's own rows, hours and pieces -/
namespace Law
open PySem Z Com
theorem rng_succ (a m : Nat) : rngL (a : Int) (m + 1) = PV.int (a : Int) :: rngL ((a + 1 : Nat) : Int) m := by
  unfold rngL
  rw [List.range_succ_eq_map, List.map_cons, List.map_map]
  refine List.cons_eq_cons.mpr ⟨?_, List.map_congr_left fun i _ => ?_⟩
  · show PV.int ((a : Int) + ((0 : Nat) : Int)) = _
    exact congrArg PV.int (by omega)
  · show PV.int ((a : Int) + ((i + 1 : Nat) : Int)) = PV.int (((a + 1 : Nat) : Int) + (i : Int))
    congr 1; omega
/-- a loop over numbers from a on -/
theorem wFor_num {b : Z.Env → Hep → Dz → Prop} {D : Dz} {t : Tg} (I : Nat → Z.Env → Hep → Prop) : ∀ (m a : Nat) (σ : Z.Env) (h : Hep), I a σ h →
    (∀ i σ h, a ≤ i → i < a + m → I i σ h → ∃ σ', tgt t (.int (i : Int)) σ = some σ' ∧ ∀ K : Z.Env → Hep → Prop, (∀ σ2 h2, I (i + 1) σ2 h2 → K σ2 h2) → b σ' h { D with nx := K, ct := K, bk := D.nx }) →
    (∀ σ h, I (a + m) σ h → D.nx σ h) → wFor [] t b (rngL (a : Int) m) σ h D
  | 0, a, σ, h, i, _, e => ⟨trivial, e σ h i⟩
  | m + 1, a, σ, h, i, s, e => by
    rw [rng_succ]
    obtain ⟨σ', et, k⟩ := s a σ h (Nat.le_refl _) (by omega) i
    refine ⟨trivial, ?_⟩
    rw [et]
    exact k _ fun σ2 h2 i2 => wFor_num I m (a + 1) σ2 h2 i2 (fun i σ h h1 h2 => s i σ h (by omega) (by omega)) fun σ h i => e σ h (by rw [show a + (m + 1) = a + 1 + m by omega]; exact i)
/-! ### hour by hour -/
def hourV : Option Nat → PV
  | none => .non
  | some n => .int (n : Int)
end Law

/-! k33xf: the law's pieces; an end of the work -/
namespace Law
open PySem Z Com
theorem reach_end {rows : Rows} (good : ∀ p ∈ rows, GoodRow p) : ∃ s, Reach rows s ∧ maxL s.left ≤ 0 := by
  have aux : ∀ (n : Nat) (s : St), msr rows s ≤ n → Reach rows s → ∃ s, Reach rows s ∧ maxL s.left ≤ 0 := by
    intro n
    induction n with
    | zero =>
      intro s h R
      by_cases g : 0 < maxL s.left
      · have := msr_lt (R.inv good) g
        omega
      · exact ⟨s, R, by omega⟩
    | succ n ih =>
      intro s h R
      by_cases g : 0 < maxL s.left
      · have := msr_lt (R.inv good) g
        exact ih _ (by omega) (R.step g)
      · exact ⟨s, R, by omega⟩
  exact aux _ _ (Nat.le_refl _) .base
end Law

/-! k34ya: parted shown (plain law) -/
namespace Law
open PySem Z Com
theorem filter_le {q : Option Nat → Bool} {m e : Nat} : ∀ (w : Hs) (off : Nat), (∀ (t : Nat) (o : Option Nat), w[t]? = some o → q o = true → m ≤ off + t ∧ off + t < e) → (w.filter q).length ≤ e - max m off
  | [], off, _ => by show 0 ≤ _; omega
  | o :: w, off, h => by
    have ih := filter_le (q := q) (m := m) (e := e) w (off + 1) fun t o2 e2 c => by
      have := h (t + 1) o2 (by simpa using e2) c
      omega
    rw [List.filter_cons]
    by_cases c : q o = true
    · have := h 0 o rfl c
      rw [if_pos c, List.length_cons]; omega
    · rw [if_neg c]; omega
/-- no set shows more than the lateness told -/
theorem shows_le {rows : Rows} (good : ∀ p ∈ rows, GoodRow p) {s : St} {w : Hs} (F : Fin rows s w) {S : List Int} (ne : S ≠ []) (nd : S.Nodup) (rg : ∀ i ∈ S, 0 ≤ i ∧ i < (rows.length : Int)) :
    minL (S.map (firR rows)) + (S.map (lenR rows)).sum - maxL (S.map (dueR rows)) ≤ maxL (lateL rows s) := by
  have row : ∀ i ∈ S, ∃ (j : Nat) (r : Row), i = (j : Int) ∧ j < rows.length ∧ rows[j]? = some r ∧ atR rows i = r := fun i hi => by
    obtain ⟨h0, h1⟩ := rg i hi
    refine ⟨i.toNat, _, by omega, by omega, rows_get h0 h1, rfl⟩
  obtain ⟨m1, m2⟩ := minL_mem (S.map (firR rows)) (fun z => ne (List.map_eq_nil_iff.mp z))
  obtain ⟨e1, e2⟩ := maxL_mem (S.map fun i => (s.done[i.toNat]?).getD 0) (fun z => ne (List.map_eq_nil_iff.mp z))
  obtain ⟨i0, hi0, ei0⟩ := List.mem_map.mp e1
  obtain ⟨j0, r0, ej0, lj0, er0, _⟩ := row i0 hi0
  obtain ⟨d0, a1, a2, a3, a4⟩ := F.dn j0 lj0
  have ed : maxL (S.map fun i => (s.done[i.toNat]?).getD 0) = (d0 : Int) := by
    rw [← ei0]
    show (s.done[i0.toNat]?).getD 0 = _
    rw [ej0, Int.toNat_natCast, a1]; rfl
  have m0 : 0 ≤ minL (S.map (firR rows)) := by
    obtain ⟨i, hi, ei⟩ := List.mem_map.mp m1
    obtain ⟨j, r, rfl, lj, er, ea⟩ := row i hi
    rw [← ei]
    show 0 ≤ (atR rows _).2.1
    rw [ea]
    exact (good r (List.mem_of_getElem? er)).2.1.1
  obtain ⟨mm, em⟩ : ∃ mm : Nat, minL (S.map (firR rows)) = (mm : Int) := ⟨_, (Int.toNat_of_nonneg m0).symm⟩
  have hs : (S.map (lenR rows)).sum = ((w.filter (inB S)).length : Int) := by
    have e1 : S.map (lenR rows) = S.map fun i => cnt w i.toNat := List.map_congr_left fun i hi => by
      obtain ⟨j, r, rfl, lj, er, ea⟩ := row i hi
      rw [Int.toNat_natCast, F.cn j r er]
      show (atR rows _).1 = _
      rw [ea]
    rw [e1, sum_cnt nd (fun i hi => (rg i hi).1) w]
  have fl := filter_le (q := inB S) (m := mm) (e := d0) w 0 fun t o et c => by
    cases o with
    | none => cases c
    | some j =>
      have mS : (j : Int) ∈ S := of_decide_eq_true c
      obtain ⟨r, er, hr⟩ := F.inr t j et
      have f1 := m2 _ (List.mem_map_of_mem (f := firR rows) mS)
      have f2 : firR rows (j : Int) = r.2.1 := by unfold firR; rw [atR_nat er]
      obtain ⟨d, b1, b2, b3, b4⟩ := F.dn j (List.getElem?_eq_some_iff.mp er).1
      have g := e2 _ (List.mem_map_of_mem (f := fun i : Int => (s.done[i.toNat]?).getD 0) mS)
      have g2 : (s.done[((j : Nat) : Int).toNat]?).getD 0 = (d : Int) := by rw [Int.toNat_natCast, b1]; rfl
      rw [g2, ed] at g
      have : ¬ d ≤ t := fun z => b4 t z et
      omega
  have dm := le_maxL (List.mem_map_of_mem (f := dueR rows) hi0)
  have dd : dueR rows i0 = r0.2.2.1 := by rw [ej0]; unfold dueR; rw [atR_nat er0]
  have lt := le_maxL (List.mem_of_getElem? (late_at er0 a1))
  have fi0 := m2 _ (List.mem_map_of_mem (f := firR rows) hi0)
  have le0 : minL (S.map (firR rows)) ≤ (d0 : Int) := by
    have : firR rows i0 = r0.2.1 := by rw [ej0]; unfold firR; rw [atR_nat er0]
    obtain ⟨r', er', hr'⟩ := F.inr _ j0 a3
    rw [er0] at er'
    cases er'
    omega
  omega
/-! ### rows one behind the other, as they come -/
def ends : Rows → Int → List Int → List Int
  | _, _, [] => []
  | rows, t, k :: r => (max t (firR rows k) + lenR rows k - dueR rows k) :: ends rows (max t (firR rows k) + lenR rows k) r
def endT (rows : Rows) : Int → List Int → Int
  | t, [] => t
  | t, k :: r => endT rows (max t (firR rows k) + lenR rows k) r
theorem ends_ge {rows : Rows} {S : List Int} {B D : Int} (hb : ∀ i ∈ S, B ≤ firR rows i) (hd : ∀ i ∈ S, dueR rows i ≤ D) : ∀ (os : List Int) (t : Int), (∀ i ∈ os, 0 ≤ lenR rows i) → (∃ i ∈ os, i ∈ S) → ∃ y ∈ ends rows t os, max t B + ((os.filter fun i => decide (i ∈ S)).map (lenR rows)).sum - D ≤ y
  | [], _, _, h => by obtain ⟨i, hi, _⟩ := h; cases hi
  | k :: os, t, hl, h => by
    have lk := hl k List.mem_cons_self
    by_cases c : ∃ i ∈ os, i ∈ S
    · obtain ⟨y, hy, le⟩ := ends_ge hb hd os (max t (firR rows k) + lenR rows k) (fun i hi => hl i (List.mem_cons_of_mem _ hi)) c
      refine ⟨y, List.mem_cons_of_mem _ hy, ?_⟩
      rw [List.filter_cons]
      by_cases cs : k ∈ S
      · have := hb k cs
        rw [if_pos (decide_eq_true cs), List.map_cons, List.sum_cons]
        omega
      · rw [if_neg (by simpa using cs)]
        omega
    · have cs : k ∈ S := by
        obtain ⟨i, hi, iS⟩ := h
        rcases List.mem_cons.mp hi with rfl | hi
        · exact iS
        · exact absurd ⟨i, hi, iS⟩ c
      have e : os.filter (fun i => decide (i ∈ S)) = [] := List.filter_eq_nil_iff.mpr fun i hi z => c ⟨i, hi, of_decide_eq_true z⟩
      refine ⟨_, List.mem_cons_self, ?_⟩
      have := hb k cs
      have := hd k cs
      rw [List.filter_cons, if_pos (decide_eq_true cs), e, List.map_cons, List.sum_cons, List.map_nil, List.sum_nil]
      omega
theorem order_ge {rows : Rows} (good : ∀ p ∈ rows, GoodRow p) {S os : List Int} (o : Ord rows.length os) (ne : S ≠ []) (nd : S.Nodup) (rg : ∀ i ∈ S, 0 ≤ i ∧ i < (rows.length : Int)) :
    minL (S.map (firR rows)) + (S.map (lenR rows)).sum - maxL (S.map (dueR rows)) ≤ maxL (ends rows 0 os) := by
  have hp : ∀ i ∈ os, 0 ≤ lenR rows i := fun i hi => by
    have := o.mem.mp hi
    have := len_pos good this.1 this.2
    omega
  obtain ⟨s, hs⟩ := List.exists_mem_of_ne_nil S ne
  obtain ⟨y, hy, le⟩ := ends_ge (rows := rows) (S := S) (B := minL (S.map (firR rows))) (D := maxL (S.map (dueR rows)))
    (fun i hi => (minL_mem (S.map (firR rows)) (fun z => ne (List.map_eq_nil_iff.mp z))).2 _ (List.mem_map_of_mem hi))
    (fun i hi => le_maxL (List.mem_map_of_mem hi)) os 0 hp ⟨s, o.mem.mpr (rg s hs), hs⟩
  have ss := sum_sub (f := lenR rows) (S := S) (L := os.filter fun i => decide (i ∈ S)) nd (fun i hi => List.mem_filter.mpr ⟨o.mem.mpr (rg i hi), decide_eq_true hi⟩) fun i hi => hp i (List.mem_filter.mp hi).1
  have := le_maxL hy
  omega
/-! ### all begins alike -/
def atF (m : Int) (r : Row) : Row := (r.1, m, r.2.2.1, r.2.2.2)
theorem at_map {rows : Rows} {m i : Int} (h0 : 0 ≤ i) (h1 : i < (rows.length : Int)) : atR (rows.map (atF m)) i = atF m (atR rows i) := by
  have e := rows_get h0 h1
  unfold atR
  rw [List.getElem?_map, e]
  unfold atR at e ⊢
  rfl
theorem plain_late {rows : Rows} (good : ∀ p ∈ rows, GoodRow p) (l1 : 1 ≤ rows.length) {m : Int} {s : St} {last : Nat} {e : Int} (good2 : ∀ p ∈ rows.map (atF m), GoodRow p) (T : Told (rows.map (atF m)) s last e) : maxL (lateL (rows.map (atF m)) s) = late rows (dueO rows) + m := by
  obtain ⟨w, F⟩ := fin_of good2 T.r T.g
  have ll : (rows.map (atF m)).length = rows.length := List.length_map ..
  have key : ∀ S : List Int, S ≠ [] → (∀ i ∈ S, 0 ≤ i ∧ i < (rows.length : Int)) → minL (S.map (firR (rows.map (atF m)))) + (S.map (lenR (rows.map (atF m)))).sum - maxL (S.map (dueR (rows.map (atF m)))) = m + shown rows S := fun S ne rg => by
    have e1 : S.map (firR (rows.map (atF m))) = S.map fun _ => m := List.map_congr_left fun i hi => by
      obtain ⟨h0, h1⟩ := rg i hi
      unfold firR
      rw [at_map h0 h1]; rfl
    have e2 : S.map (lenR (rows.map (atF m))) = S.map (lenR rows) := List.map_congr_left fun i hi => by
      obtain ⟨h0, h1⟩ := rg i hi
      unfold lenR
      rw [at_map h0 h1]; rfl
    have e3 : S.map (dueR (rows.map (atF m))) = S.map (dueR rows) := List.map_congr_left fun i hi => by
      obtain ⟨h0, h1⟩ := rg i hi
      unfold dueR
      rw [at_map h0 h1]; rfl
    obtain ⟨x, hx⟩ := List.exists_mem_of_ne_nil S ne
    have e4 : minL (S.map fun _ => m) = m := minL_is (List.mem_map.mpr ⟨x, hx, rfl⟩) fun y hy => by
      obtain ⟨_, _, rfl⟩ := List.mem_map.mp hy
      exact Int.le_refl _
    rw [e1, e2, e3, e4]
    unfold shown
    omega
  apply Int.le_antisymm
  · obtain ⟨ne, nd, rg, sh⟩ := crowd_shows good2 T F (List.Perm.refl _)
    rw [ll] at rg
    have p := srtI_perm (crowdF (rows.map (atF m)) s.pcs last e)
    have gs : GoodSet rows.length (srtI (crowdF (rows.map (atF m)) s.pcs last e)) := ⟨fun z => by rw [z] at p; exact ne p.symm.eq_nil, fun i hi => rg i (p.mem_iff.mp hi), srtI_lt nd⟩
    have a := late_least good (dueO_ord rows) gs
    obtain ⟨ne2, nd2, rg2, sh2⟩ := crowd_shows good2 T F p
    have k := key _ gs.1 gs.2.1
    omega
  · obtain ⟨S, gs, e1⟩ := due_shown l1
    have a := shows_le good2 F gs.1 gs.nd (by rw [ll]; exact gs.2.1)
    have k := key S gs.1 gs.2.1
    omega
/-! ### the hours of the pieces -/
def hoursP (i : Nat) (p : Pc) : Int := if p.1 = (i : Int) then p.2.2 - p.2.1 else 0
def sumP (i : Nat) (P : List Pc) : Int := (P.map (hoursP i)).sum
theorem sumP_perm {i : Nat} {P Q : List Pc} (p : P.Perm Q) : sumP i P = sumP i Q := by
  unfold sumP
  induction p with
  | nil => rfl
  | cons x _ ih => simp only [List.map_cons, List.sum_cons, ih]
  | swap x y l => simp only [List.map_cons, List.sum_cons]; omega
  | trans _ _ a b => exact a.trans b
theorem sumP_app (i : Nat) (P Q : List Pc) : sumP i (P ++ Q) = sumP i P + sumP i Q := by
  unfold sumP
  rw [List.map_append, List.sum_append]
theorem sumP_one (i : Nat) (p : Pc) : sumP i [p] = hoursP i p := by
  unfold sumP
  rw [List.map_cons, List.map_nil, List.sum_cons, List.sum_nil]; omega
theorem sumP_step (i t : Nat) (o : Option Nat) (P : List Pc) : sumP i (pstep P (o, t)) = sumP i P + if o = some i then 1 else 0 := by
  cases o with
  | none => show sumP i P = _; simp
  | some n =>
    have new : hoursP i ((n : Int), (t : Int), (t : Int) + 1) = if (some n : Option Nat) = some i then 1 else 0 := by
      unfold hoursP
      by_cases c : n = i
      · subst c
        rw [if_pos rfl, if_pos rfl]
        show (t : Int) + 1 - (t : Int) = 1
        omega
      · rw [if_neg (by show ¬ (n : Int) = (i : Int); omega), if_neg (by simpa using c)]
    show sumP i (putF ⟨[], (t : Int), P, []⟩ (n : Int) ((t : Int) + 1)) = _
    unfold putF
    show sumP i (match P[P.length - 1]? with | some q => if q.1 = (n : Int) ∧ q.2.2 = (t : Int) then P.set (P.length - 1) ((n : Int), q.2.1, (t : Int) + 1) else P ++ [((n : Int), (t : Int), (t : Int) + 1)] | none => P ++ [((n : Int), (t : Int), (t : Int) + 1)]) = _
    cases e : P[P.length - 1]? with
    | none =>
      show sumP i (P ++ [((n : Int), (t : Int), (t : Int) + 1)]) = _
      rw [sumP_app, sumP_one, new]
    | some q =>
      show sumP i (if q.1 = (n : Int) ∧ q.2.2 = (t : Int) then _ else _) = _
      by_cases cc : q.1 = (n : Int) ∧ q.2.2 = (t : Int)
      · rw [if_pos cc]
        have sp := split_last e
        have es : P.set (P.length - 1) ((n : Int), q.2.1, (t : Int) + 1) = P.dropLast ++ [((n : Int), q.2.1, (t : Int) + 1)] := by
          have ld : P.length - 1 = P.dropLast.length := by rw [List.length_dropLast]
          rw [ld]
          conv => lhs; arg 1; rw [sp]
          rw [List.set_append_right _ _ (Nat.le_refl _), Nat.sub_self]; rfl
        rw [es]
        conv => rhs; rw [sp]
        rw [sumP_app, sumP_app, sumP_one, sumP_one]
        unfold hoursP
        obtain ⟨c1, c2⟩ := cc
        by_cases c : n = i
        · subst c
          rw [if_pos rfl, if_pos c1, if_pos rfl]
          show _ + ((t : Int) + 1 - q.2.1) = _
          omega
        · rw [if_neg (by show ¬ (n : Int) = (i : Int); omega), if_neg (by rw [c1]; omega), if_neg (by simpa using c)]
          omega
      · rw [if_neg cc, sumP_app, sumP_one, new]
theorem sumP_runs (i : Nat) : ∀ (v u : Hs), sumP i (runs u) = cnt u i → sumP i (runs (u ++ v)) = cnt (u ++ v) i
  | [], u, h => by rw [List.append_nil]; exact h
  | o :: v, u, h => by
    have := sumP_runs i v (u ++ [o]) (by
      rw [runs_one, sumP_step, h, cnt_app]
      congr 1
      unfold cnt
      by_cases c : o = some i
      · subst c; simp
      · simp [c])
    rw [List.append_assoc] at this
    exact this
theorem sumP_cnt (i : Nat) (w : Hs) : sumP i (runs w) = cnt w i := sumP_runs i w [] (by unfold cnt; rw [List.count_nil]; rfl)
/-- pieces by their hours lie apart -/
theorem pieces_apart {w : Hs} {P : List Pc} (I : PcOk w P) {Q : List Pc} (pm : Q.Perm P) : srtP (Q.map (·.2)) = P.map (·.2) := by
  have p : (srtP (Q.map (·.2))).Perm (P.map (·.2)) := (srtP_perm _).trans (pm.map _)
  have a := srtP_sorted (Q.map (·.2))
  have b : (P.map (·.2)).Pairwise (fun p q => p.1 < q.1 ∨ (p.1 = q.1 ∧ p.2 ≤ q.2)) := by
    refine List.pairwise_map.mpr ?_
    have h := List.Pairwise.and_mem.mp I.pw
    refine h.imp fun {x y} h => ?_
    obtain ⟨i, a, b, rfl, lab, _⟩ := I.fm x h.1
    have h2 : (b : Int) ≤ y.2.1 := h.2.2
    left
    show (a : Int) < y.2.1
    omega
  exact p.eq_of_pairwise (fun x y _ _ h1 h2 => by
    have e1 : x.1 = y.1 := by omega
    have e2 : x.2 = y.2 := by omega
    exact Prod.ext e1 e2) a b
theorem next_apart {w : Hs} {P : List Pc} (I : PcOk w P) : ∀ x ∈ (P.map (·.2)).zip ((P.map (·.2)).drop 1), ¬ x.2.1 < x.1.2 := by
  have h : (P.map (·.2)).Pairwise (fun p q : Int × Int => p.2 ≤ q.1) := List.pairwise_map.mpr I.pw
  generalize P.map (·.2) = L at h
  intro x hx
  induction L with
  | nil => cases hx
  | cons p L ih =>
    cases L with
    | nil => cases hx
    | cons q L =>
      obtain ⟨h1, h2⟩ := List.pairwise_cons.mp h
      have hx : x ∈ (p, q) :: (q :: L).zip ((q :: L).drop 1) := hx
      rcases List.mem_cons.mp hx with rfl | hx
      · have := h1 q List.mem_cons_self
        show ¬ q.1 < p.2
        omega
      · exact ih h2 hx
end Law

/-! k34yb: the pieces looked through; rows one behind the other -/
namespace Law
open PySem Z Com
def sp_parted : Z.Spec := sd_parted
theorem mt_parted : Meets GPa 6 1 ir_parted sp_parted := md_parted
def hrL (n : Nat) (A : List Pc) : List Int := (List.range n).map fun i => sumP i A
theorem hrL_len (n : Nat) (A : List Pc) : (hrL n A).length = n := by unfold hrL; rw [List.length_map, List.length_range]
theorem hrL_get {n i : Nat} {A : List Pc} (h : i < n) : (hrL n A)[i]? = some (sumP i A) := by
  unfold hrL
  rw [List.getElem?_map, List.getElem?_range h]; rfl
theorem hrL_nil (n : Nat) : (hrL n []).map PV.int = List.replicate n (PV.int 0) := by
  unfold hrL
  rw [List.map_map]
  apply List.ext_getElem?
  intro i
  rw [List.getElem?_map, List.getElem?_replicate]
  by_cases c : i < n
  · rw [List.getElem?_range c, if_pos c]; rfl
  · rw [if_neg c, List.getElem?_eq_none (by rw [List.length_range]; omega)]; rfl
theorem hrL_snoc {n i : Nat} {a b : Int} {A : List Pc} (h : i < n) : hrL n (A ++ [((i : Int), a, b)]) = (hrL n A).set i (sumP i A + b - a) := by
  apply List.ext_getElem?
  intro j
  by_cases c : j < n
  · rw [hrL_get c, sumP_app, sumP_one]
    by_cases d : i = j
    · subst d
      rw [List.getElem?_set_self (by rw [hrL_len]; exact c)]
      unfold hoursP
      rw [if_pos rfl]
      congr 1
      show _ + (b - a) = _
      omega
    · rw [List.getElem?_set_ne d, hrL_get c]
      unfold hoursP
      rw [if_neg (by show ¬ (i : Int) = (j : Int); omega)]
      congr 1; omega
  · rw [List.getElem?_eq_none (by rw [hrL_len]; omega), List.getElem?_eq_none (by rw [List.length_set, hrL_len]; omega)]
def sp__law_pieces_right : Z.Spec := fun args h F _ => ∃ (a b : Nat) (rows : Rows) (s : St) (w : Hs) (Q : List Pc), args = [.ref a, .ref b] ∧ h[a]? = some (.lst (rows.map rowV)) ∧ h[b]? = some (.lst (Q.map pcV)) ∧ Fin rows s w ∧ Q.Perm s.pcs ∧ rows.length ≤ 30 ∧ Q.length ≤ 40000 ∧ ∀ h', Ext h h' → F (.bl true) h'
def ir_prt : List Sm := [.ife (.or (.cmp .Lt (.var 4) (.idx (.idx (.var 0) (.var 3)) (.int 1))) (.cmp .LtE (.var 5) (.var 4))) [.ret (.bl false)] [], .sto (.var 2) (.var 3) (.bin .Sub (.bin .Add (.idx (.var 2) (.var 3)) (.var 5)) (.var 4))]
def ir_pre : List Sm := [.set (.nm 6) (.bi .sorted [(.comp [3, 4, 5] (.tp [(.nm 3), (.nm 4), (.nm 5)]) (.wlk (.var 1)) none (.tup [(.var 4), (.var 5)]))]),
  .ife (.cmp .NotEq (.comp [7] (.nm 7) (.zipn (.var 6) (.slc (.var 6) (some (.int 1)) none)) (some (.cmp .Lt (.idx (.idx (.var 7) (.int 1)) (.int 0)) (.idx (.idx (.var 7) (.int 0)) (.int 1)))) (.var 7)) (.lst [])) [.ret (.bl false)] [],
  .ret (.cmp .Eq (.var 2) (.comp [8] (.nm 8) (.wlk (.var 0)) none (.idx (.var 8) (.int 0))))]
theorem prt_ok {rows : Rows} {a b f i x y n : Nat} {r : Row} {A : List Pc} {y6 y7 y8 : Option PV} {h0 h : Hep} {D : Dz} (X : Ext h0 h) (ea : h[a]? = some (.lst (rows.map rowV))) (ef : h[f]? = some (.lst ((hrL rows.length A).map PV.int))) (l0 : h0.length ≤ f) (er : rows[i]? = some r) (h1 : r.2.1 ≤ (x : Int)) (xy : x < y)
    (k : ∀ h', Ext h0 h' → h'[f]? = some (.lst ((hrL rows.length (A ++ [((i : Int), (x : Int), (y : Int))])).map PV.int)) → D.nx [some (.ref a), some (.ref b), some (.ref f), some (.int (i : Int)), some (.int (x : Int)), some (.int (y : Int)), y6, y7, y8] h') :
    wSs [] ir_prt [some (.ref a), some (.ref b), some (.ref f), some (.int (i : Int)), some (.int (x : Int)), some (.int (y : Int)), y6, y7, y8] h D := by
  unfold ir_prt
  have il := (List.getElem?_eq_some_iff.mp er).1
  have ij : ixN rows.length (i : Int) = some i := ixN_nat il
  have il2 : ixN (hrL rows.length A).length (i : Int) = some i := ixN_nat (by rw [hrL_len]; exact il)
  have i41 : ixN 4 1 = some 1 := rfl
  have rv : rowV r = .tup [.int r.1, .int r.2.1, .int r.2.2.1, .int r.2.2.2] := rfl
  have c1 : ¬ (x : Int) < r.2.1 := by omega
  have c2 : ¬ (y : Int) ≤ (x : Int) := by omega
  refine wSs_step ?_; simp_arith [ea, ij, er, rv, i41, c1, c2]
  refine wSs_step ?_; simp_arith [ef, il2, hrL_get il]
  refine k _ (X.set' l0) ?_
  rw [set_get ef, hrL_snoc il, List.map_set]
theorem pre_ok {rows : Rows} {s : St} {w : Hs} {Q : List Pc} {a b f : Nat} {y3 y4 y5 y6 y7 y8 : Option PV} {h0 h : Hep} {D : Dz} (X : Ext h0 h) (F : Fin rows s w) (pm : Q.Perm s.pcs) (l30 : rows.length ≤ 30) (lQ : Q.length ≤ 40000) (ea : h[a]? = some (.lst (rows.map rowV))) (eb : h[b]? = some (.lst (Q.map pcV))) (ef : h[f]? = some (.lst ((hrL rows.length Q).map PV.int)))
    (k : ∀ h', Ext h0 h' → D.rt (.bl true) h') :
    wSs [] ir_pre [some (.ref a), some (.ref b), some (.ref f), y3, y4, y5, y6, y7, y8] h D := by
  have P := pcOk w
  rw [← F.pc] at P
  have i20 : ixN 2 0 = some 0 := rfl
  have i21 : ixN 2 1 = some 1 := rfl
  have i40 : ixN 4 0 = some 0 := rfl
  unfold ir_pre
  refine wSs_step ?_
  simp_arith [eb]
  refine comp_fil (f := pcV) (f2 := fun p => pairV p.2) (fun _ => true) (by omega) (fun h' X' => ⟨X' _ _ eb, trivial⟩) (fun p hp h' X' => ⟨_, rfl, fun G hG => hG _ X', fun _ h2 X2 G hG => ?_⟩) fun h2 X2 => ?_
  · simp_arith []
    exact hG _ X2
  have e2 : (Q.filter fun _ => true).map (fun p => pairV p.2) = (Q.map (·.2)).map pairV := by rw [List.filter_eq_self.mpr fun _ _ => rfl, List.map_map]; rfl
  rw [e2]
  try simp_arith [new_get]
  refine sorted_pairs ?_
  rw [sortZ_pairs, pieces_apart P pm]
  have X3 : Ext h (h2 ++ [Ob.lst ((Q.map (·.2)).map pairV)] ++ [Ob.lst ((s.pcs.map (·.2)).map pairV)]) := X2.trans (Ext.app.trans .app)
  have e6 := new_get (h := h2 ++ [Ob.lst ((Q.map (·.2)).map pairV)]) (o := Ob.lst ((s.pcs.map (·.2)).map pairV))
  generalize (h2 ++ [Ob.lst ((Q.map (·.2)).map pairV)]).length = r6 at *
  generalize h2 ++ [Ob.lst ((Q.map (·.2)).map pairV)] ++ [Ob.lst ((s.pcs.map (·.2)).map pairV)] = h3 at *
  have na := next_apart P
  have lP : s.pcs.length ≤ 40000 := by rw [← pm.length_eq]; exact lQ
  have lM : (s.pcs.map (·.2)).length ≤ 40000 := by rw [List.length_map]; exact lP
  generalize hM : s.pcs.map (·.2) = M at *
  have cu : cutL (M.map pairV) (some 1) none = (M.drop 1).map pairV := by
    have := cutL_from (M.map pairV) 1
    rw [List.map_drop]
    exact this
  refine wSs_step ?_
  simp only [wS, wE, wEs, wO, wI, wC, cmpW, truW, sliceW, getL, List.getElem?_cons_zero, List.getElem?_cons_succ, e6, cu]
  have e6' := app_get (j := [Ob.lst ((M.drop 1).map pairV)]) e6
  have e7 := new_get (h := h3) (o := Ob.lst ((M.drop 1).map pairV))
  have X4 : Ext h3 (h3 ++ [Ob.lst ((M.drop 1).map pairV)]) := .app
  generalize h3 ++ [Ob.lst ((M.drop 1).map pairV)] = h4 at *
  generalize h3.length = r7 at *
  simp only [e6', e7]
  rw [zipL_gen]
  refine comp_fil (f := fun p : (Int × Int) × (Int × Int) => .tup [pairV p.1, pairV p.2]) (f2 := fun p => .tup [pairV p.1, pairV p.2]) (fun _ => false) (by rw [List.length_zip]; omega) (fun h' X' => ⟨X' _ _ e6', X' _ _ e7, trivial⟩) (fun p hp h' X' => ⟨_, rfl, fun G hG => ?_, fun z => by cases z⟩) fun h5 X5 => ?_
  · have pv1 : pairV p.1 = .tup [.int p.1.1, .int p.1.2] := rfl
    have pv2 : pairV p.2 = .tup [.int p.2.1, .int p.2.2] := rfl
    have c := na p hp
    simp_arith [pv1, pv2, i20, i21]
    rw [decide_eq_false c]
    exact hG _ X'
  rw [List.filter_eq_nil_iff.mpr fun _ _ => by decide, List.map_nil]
  try simp_arith []
  refine eqW_lnil (app_get new_get) new_get ?_
  simp_arith []
  have X6 : Ext h (h5 ++ [Ob.lst []] ++ [Ob.lst []]) := X3.trans (X4.trans (X5.trans (Ext.app.trans .app)))
  generalize h5 ++ [Ob.lst []] ++ [Ob.lst []] = h6 at *
  refine wSs_step ?_; simp_arith [X6 _ _ ea]
  refine comp_fil (f := rowV) (f2 := fun p => PV.int p.1) (fun _ => true) (by omega) (fun h' X' => ⟨X' _ _ (X6 _ _ ea), trivial⟩) (fun p hp h' X' => ⟨_, rfl, fun G hG => hG _ X', fun _ h2 X2 G hG => ?_⟩) fun h7 X7 => ?_
  · have rv : rowV p = .tup [.int p.1, .int p.2.1, .int p.2.2.1, .int p.2.2.2] := rfl
    simp_arith [rv, i40]
    exact hG _ X2
  have e8 : (rows.filter fun _ => true).map (fun p => PV.int p.1) = (rows.map (·.1)).map PV.int := by rw [List.filter_eq_self.mpr fun _ _ => rfl, List.map_map]; rfl
  rw [e8]
  have hl : hrL rows.length Q = rows.map (·.1) := by
    apply List.ext_getElem?
    intro i
    cases er : rows[i]? with
    | some r =>
      have il := (List.getElem?_eq_some_iff.mp er).1
      rw [hrL_get il, sumP_perm pm, F.pc, sumP_cnt, F.cn i r er, List.getElem?_map, er]; rfl
    | none =>
      have := List.getElem?_eq_none_iff.mp er
      rw [List.getElem?_eq_none (by rw [hrL_len]; exact this), List.getElem?_eq_none (by rw [List.length_map]; exact this)]
  refine eqW_ints (app_get (X7 _ _ (X6 _ _ ef))) new_get ?_
  rw [hl, show (rows.map (·.1) == rows.map (·.1)) = true from beq_self_eq_true _]
  try simp_arith []
  exact k _ (X.trans (X6.trans (X7.trans .app)))
theorem mt__law_pieces_right : Meets [] 9 2 ir__law_pieces_right sp__law_pieces_right := by
  rintro args h G E ⟨a, b, rows, s, w, Q, rfl, ea, eb, F, pm, l30, lQ, kf⟩
  refine ⟨rfl, ?_⟩
  rw [show ir__law_pieces_right = .set (.nm 2) (.bin .Mult (.lst [(.int 0)]) (.bi .len [(.var 0)])) :: .for_ (.tp [(.nm 3), (.nm 4), (.nm 5)]) (.wlk (.var 1)) ir_prt :: ir_pre from rfl]
  show wSs _ _ [some _, some _, none, none, none, none, none, none, none] h _
  have P := pcOk w
  rw [← F.pc] at P
  have fr := flat_rep rows.length (PV.int 0)
  have lb : rows.length ≤ 16777216 := by omega
  refine wSs_step ?_; simp_arith [app_get ea, new_get, fr, lb]
  refine ⟨by omega, by omega, by omega, ?_⟩
  rw [← hrL_nil]
  have X1 : Ext h (h ++ [Ob.lst [PV.int 0]] ++ [Ob.lst ((hrL rows.length []).map PV.int)]) := Ext.app.trans .app
  have e1 := new_get (h := h ++ [Ob.lst [PV.int 0]]) (o := Ob.lst ((hrL rows.length []).map PV.int))
  have l0 : h.length ≤ (h ++ [Ob.lst [PV.int 0]]).length := by rw [List.length_append]; omega
  generalize (h ++ [Ob.lst [PV.int 0]]).length = f at *
  generalize h ++ [Ob.lst [PV.int 0]] ++ [Ob.lst ((hrL rows.length []).map PV.int)] = h1 at *
  refine wSs_step ?_; simp_arith [X1 _ _ eb]
  refine wFor_ind (fun rest σ h' => ∃ (A R : List Pc) (y3 y4 y5 : Option PV), Q = A ++ R ∧ rest = R.map pcV ∧ Ext h h' ∧ h'[f]? = some (.lst ((hrL rows.length A).map PV.int)) ∧ σ = [some (.ref a), some (.ref b), some (.ref f), y3, y4, y5, none, none, none]) _ _ _ ⟨[], Q, none, none, none, rfl, rfl, X1, e1, rfl⟩ ?_ ?_
  · rintro x rest σ h' ⟨A, R, y3, y4, y5, eA, eR, X, en, rfl⟩
    obtain ⟨p, R, rfl, rfl, rfl⟩ : ∃ a B', R = a :: B' ∧ x = pcV a ∧ rest = B'.map pcV := by
      cases R with
      | nil => cases eR
      | cons a B' => cases eR; exact ⟨a, B', rfl, rfl, rfl⟩
    have mp : p ∈ s.pcs := pm.mem_iff.mp (by rw [eA]; simp)
    obtain ⟨i, u, v, rfl, luv, lv, hw⟩ := P.fm p mp
    obtain ⟨r, er, hr⟩ := F.inr u i (hw u (Nat.le_refl _) luv)
    refine ⟨⟨X _ _ eb, trivial⟩, _, rfl, fun K hK => ?_⟩
    show wSs _ _ [some _, some _, some _, some (.int (i : Int)), some (.int (u : Int)), some (.int (v : Int)), none, none, none] _ _
    exact prt_ok (n := 0) X (X _ _ ea) en l0 er hr luv fun h2 X2 e2 => hK _ _ ⟨A ++ [((i : Int), (u : Int), (v : Int))], R, _, _, _, by rw [eA]; simp, rfl, X2, e2, rfl⟩
  · rintro σ h' ⟨A, R, y3, y4, y5, eA, eR, X, en, rfl⟩
    have : R = [] := by cases R with | nil => rfl | cons _ _ => cases eR
    subst this
    rw [List.append_nil] at eA
    subst eA
    refine ⟨⟨X _ _ eb, trivial⟩, ?_⟩
    exact pre_ok X F pm l30 lQ (X _ _ ea) (X _ _ eb) en kf
def sp__law_later : Z.Spec := fun args h F _ => ∃ (a b : Nat) (rows : Rows) (os : List Int), args = [.ref a, .ref b] ∧ h[a]? = some (.lst (rows.map rowV)) ∧ h[b]? = some (.lst (os.map PV.int)) ∧ os ≠ [] ∧ os.length ≤ 1000 ∧ (∀ i ∈ os, 0 ≤ i ∧ i < (rows.length : Int)) ∧ ∀ h', Ext h h' → F (.int (maxL (ends rows 0 os))) h'
def ir_lrt : List Sm := [.set (.nm 2) (.bin .Add (.bi .max2 [(.var 2), (.idx (.idx (.var 0) (.var 4)) (.int 1))]) (.idx (.idx (.var 0) (.var 4)) (.int 0))), .exp (.mi .append (.var 3) [(.bin .Sub (.var 2) (.idx (.idx (.var 0) (.var 4)) (.int 2)))])]
theorem ends_snoc {rows : Rows} (k : Int) : ∀ (A : List Int) (t : Int), ends rows t (A ++ [k]) = ends rows t A ++ [max (endT rows t A) (firR rows k) + lenR rows k - dueR rows k] ∧ endT rows t (A ++ [k]) = max (endT rows t A) (firR rows k) + lenR rows k
  | [], t => ⟨rfl, rfl⟩
  | x :: A, t => by
    obtain ⟨h1, h2⟩ := ends_snoc k A (max t (firR rows x) + lenR rows x)
    refine ⟨?_, h2⟩
    show _ :: ends rows _ (A ++ [k]) = _
    rw [h1]; rfl
theorem ends_len {rows : Rows} : ∀ (A : List Int) (t : Int), (ends rows t A).length = A.length
  | [], _ => rfl
  | x :: A, t => by
    show (ends rows _ A).length + 1 = _
    rw [ends_len A]; rfl
theorem mt__law_later : Meets [] 5 2 ir__law_later sp__law_later := by
  rintro args h F E ⟨a, b, rows, os, rfl, ea, eb, ne, lo, rg, kf⟩
  refine ⟨rfl, ?_⟩
  rw [show ir__law_later = .set (.nm 2) (.int 0) :: .set (.nm 3) (.lst []) :: .for_ (.nm 4) (.wlk (.var 1)) ir_lrt :: [.ret (.bi .maxl [(.var 3)])] from rfl]
  show wSs _ _ [some _, some _, none, none, none] h _
  have i40 : ixN 4 0 = some 0 := rfl
  have i41 : ixN 4 1 = some 1 := rfl
  have i42 : ixN 4 2 = some 2 := rfl
  refine wSs_step ?_; simp_arith []
  refine wSs_step ?_; simp_arith []
  have X1 : Ext h (h ++ [Ob.lst []]) := .app
  have e1 := new_get (h := h) (o := Ob.lst [])
  generalize h ++ [Ob.lst []] = h1 at *
  refine wSs_step ?_; simp_arith [X1 _ _ eb]
  refine wFor_ind (fun rest σ h' => ∃ (A R : List Int) (y4 : Option PV), os = A ++ R ∧ rest = R.map PV.int ∧ Ext h h' ∧ h'[h.length]? = some (.lst ((ends rows 0 A).map PV.int)) ∧ σ = [some (.ref a), some (.ref b), some (.int (endT rows 0 A)), some (.ref h.length), y4]) _ _ _ ⟨[], os, none, rfl, rfl, X1, e1, rfl⟩ ?_ ?_
  · rintro x rest σ h' ⟨A, R, y4, eA, eR, X, en, rfl⟩
    obtain ⟨i, R, rfl, rfl, rfl⟩ : ∃ a B', R = a :: B' ∧ x = PV.int a ∧ rest = B'.map PV.int := by
      cases R with
      | nil => cases eR
      | cons a B' => cases eR; exact ⟨a, B', rfl, rfl, rfl⟩
    have mi : i ∈ os := by rw [eA]; simp
    obtain ⟨j0, j1⟩ := rg i mi
    have ij : ixN rows.length i = some i.toNat := ixN_int j0 j1
    have g := rows_get j0 j1
    have rv : rowV (atR rows i) = .tup [.int (lenR rows i), .int (firR rows i), .int (dueR rows i), .int (wgtR rows i)] := rfl
    have lA := congrArg List.length eA
    rw [List.length_append] at lA
    have lb : (ends rows 0 A).length < 16777216 := by rw [ends_len]; omega
    obtain ⟨s1, s2⟩ := ends_snoc (rows := rows) i A 0
    refine ⟨⟨X _ _ eb, trivial⟩, _, rfl, fun K hK => ?_⟩
    show wSs _ _ [some _, some _, some _, some _, some (.int i)] _ _
    unfold ir_lrt
    refine wSs_step ?_; simp_arith [X _ _ ea, ij, g, rv, i40, i41]
    refine wSs_step ?_; simp_arith [X _ _ ea, ij, g, rv, i42, en, lb]
    refine hK _ _ ⟨A ++ [i], R, _, by rw [eA]; simp, rfl, X.set' (Nat.le_refl _), ?_, by rw [s2]⟩
    rw [set_get en, s1, List.map_append]; rfl
  · rintro σ h' ⟨A, R, y4, eA, eR, X, en, rfl⟩
    have : R = [] := by cases R with | nil => rfl | cons _ _ => cases eR
    subst this
    rw [List.append_nil] at eA
    subst eA
    refine ⟨⟨X _ _ eb, trivial⟩, ?_⟩
    refine wSs_step ?_; simp_arith [en]
    refine ⟨_, intsOf_map _, fun z => ne (List.eq_nil_of_length_eq_zero (by rw [← ends_len (rows := rows) os 0, z]; rfl)), ?_⟩
    try simp_arith []
    exact kf _ X
end Law

/-! k34yc: the law -/
namespace Law
open PySem Z Com
abbrev GL : List Z.Spec := [sp__law_rows, sp_parted, sp__law_pieces_right, sp__law_draw, sp__law_later, sp__law_order, sp__law_next, sp_least_late]
def ownR (rows : Rows) (ms : List Int) : Rows := ms.map (atR rows)
def endI (Q : List Pc) (i : Nat) : Int := maxL ((Q.filter fun p => p.1 == (i : Int)).map (·.2.2))
theorem ends_all {rows : Rows} {s : St} {w : Hs} (F : Fin rows s w) {Q : List Pc} (pm : Q.Perm s.pcs) : (List.range rows.length).map (endI Q) = s.done := by
  apply List.ext_getElem?
  intro i
  by_cases c : i < rows.length
  · rw [(ends_is F c pm).2, List.getElem?_map, List.getElem?_range c]; rfl
  · rw [List.getElem?_eq_none (by rw [List.length_map, List.length_range]; omega), List.getElem?_eq_none (by rw [F.dl]; omega)]
/-- what stands all along -/
structure Here (rows : Rows) (s : St) (w : Hs) (ms : List Int) (h : Hep) (rR pR sR : Nat) : Prop where
  F : Fin rows s w
  good : ∀ p ∈ rows, GoodRow p
  l1 : 1 ≤ rows.length
  l30 : rows.length ≤ 30
  lp : s.pcs.length ≤ 40000
  er : h[rR]? = some (.lst (rows.map rowV))
  ep : h[pR]? = some (.lst ((srtT s.pcs).map pcV))
  es : h[sR]? = some (.lst (ms.map PV.int))
  mne : ms ≠ []
  mnd : ms.Nodup
  mr : ∀ i ∈ ms, 0 ≤ i ∧ i < (rows.length : Int)
  sh : minL (ms.map (firR rows)) + (ms.map (lenR rows)).sum - maxL (ms.map (dueR rows)) = maxL (lateL rows s)
theorem Here.ext {rows : Rows} {s : St} {w : Hs} {ms : List Int} {h h' : Hep} {rR pR sR : Nat} (H : Here rows s w ms h rR pR sR) (X : Ext h h') : Here rows s w ms h' rR pR sR := ⟨H.F, H.good, H.l1, H.l30, H.lp, X _ _ H.er, X _ _ H.ep, X _ _ H.es, H.mne, H.mnd, H.mr, H.sh⟩
theorem Here.ne {rows : Rows} {s : St} {w : Hs} {ms : List Int} {h : Hep} {rR pR sR : Nat} (H : Here rows s w ms h rR pR sR) : rows ≠ [] := fun z => by have := H.l1; rw [z] at this; exact absurd this (by decide)
def ir_l5 : List Sm := [.set (.nm 14) (.comp [15, 16, 17, 18] (.tp [(.nm 15), (.nm 16), (.nm 17), (.nm 18)]) (.wlk (.var 1)) none (.tup [(.var 15), (.int 0), (.var 17), (.var 18)])),
  .set (.nm 19) (.call 6 [(.call 3 [(.var 0), (.int 44)]), (.int 50)]),
  .set (.nm 20) (.comp [15, 16, 17, 18] (.tp [(.nm 15), (.nm 16), (.nm 17), (.nm 18)]) (.wlk (.var 14)) none (.tup [(.var 15), (.bi .min2 [(.int 1000000), (.var 19)]), (.var 17), (.var 18)])),
  .ret (.and (.cmp .Eq (.idx (.call 1 [(.var 14)]) (.int 0)) (.idx (.call 7 [(.var 1)]) (.int 0))) (.cmp .Eq (.idx (.call 1 [(.var 20)]) (.int 0)) (.bin .Add (.idx (.call 7 [(.var 1)]) (.int 0)) (.var 19))))]
theorem at_good {rows : Rows} {m : Int} (good : ∀ p ∈ rows, GoodRow p) (m0 : 0 ≤ m) (m1 : m ≤ 50) : ∀ p ∈ rows.map (atF m), GoodRow p := fun p hp => by
  obtain ⟨p0, hp0, rfl⟩ := List.mem_map.mp hp
  obtain ⟨a, b, c, d⟩ := good p0 hp0
  exact ⟨a, ⟨m0, by show m ≤ 1000000; omega⟩, c, d⟩
theorem l5_ok {ns : List Int} {rows : Rows} {rR : Nat} {h : Hep} {D : Dz} {y2 y3 y4 y5 y6 y7 y8 y9 y10 y11 y12 y13 y14 y15 y16 y17 y18 y19 y20 : Option PV} (hl : ns.length ≤ 63) (good : ∀ p ∈ rows, GoodRow p) (l1 : 1 ≤ rows.length) (l30 : rows.length ≤ 30) (er : h[rR]? = some (.lst (rows.map rowV)))
    (k : ∀ h', D.rt (.bl true) h') :
    wSs GL ir_l5 [some (.ils (ns.map PV.int)), some (.ref rR), y2, y3, y4, y5, y6, y7, y8, y9, y10, y11, y12, y13, y14, y15, y16, y17, y18, y19, y20] h D := by
  have i30 : ixN 3 0 = some 0 := rfl
  unfold ir_l5
  refine wSs_step ?_; simp_arith [er]
  refine comp_fil (f := rowV) (f2 := fun p => rowV (atF 0 p)) (fun _ => true) (by omega) (fun h' X' => ⟨X' _ _ er, trivial⟩) (fun p hp h' X' => ⟨_, rfl, fun G hG => hG _ X', fun _ h2 X2 G hG => ?_⟩) fun h1 X1 => ?_
  · simp_arith []
    exact hG _ X2
  have e1 : (rows.filter fun _ => true).map (fun p => rowV (atF 0 p)) = (rows.map (atF 0)).map rowV := by rw [List.filter_eq_self.mpr fun _ _ => rfl, List.map_map]; rfl
  rw [e1]
  have X2 : Ext h (h1 ++ [Ob.lst ((rows.map (atF 0)).map rowV)]) := X1.trans .app
  have e2 := new_get (h := h1) (o := Ob.lst ((rows.map (atF 0)).map rowV))
  generalize h1.length = r14 at *
  generalize h1 ++ [Ob.lst ((rows.map (atF 0)).map rowV)] = h2 at *
  refine wSs_step ?_; simp_arith []
  refine ⟨ns, 44, rfl, hl, by decide, by decide, fun d h3 x3 f3 D3 => ?_⟩
  try simp_arith []
  refine next_step D3 (by decide) (by decide) (by decide) fun m h4 m0 m1 D4 X4 => ?_
  try simp_arith []
  have X04 : Ext h2 h4 := ExtB.ext x3 X4 f3
  have e4 := X04 _ _ e2
  refine wSs_step ?_; simp_arith [e4]
  refine comp_fil (l := rows.map (atF 0)) (f := rowV) (f2 := fun p => rowV (atF m p)) (fun _ => true) (by rw [List.length_map]; omega) (fun h' X' => ⟨X' _ _ e4, trivial⟩) (fun p hp h' X' => ⟨_, rfl, fun G hG => hG _ X', fun _ h2 X2 G hG => ?_⟩) fun h5 X5 => ?_
  · have mm : min (1000000 : Int) m = m := by omega
    simp_arith [mm]
    exact hG _ X2
  have e5 : ((rows.map (atF 0)).filter fun _ => true).map (fun p => rowV (atF m p)) = (rows.map (atF m)).map rowV := by rw [List.filter_eq_self.mpr fun _ _ => rfl, List.map_map, List.map_map]; rfl
  rw [e5]
  have X6 : Ext h4 (h5 ++ [Ob.lst ((rows.map (atF m)).map rowV)]) := X5.trans .app
  have e6 := new_get (h := h5) (o := Ob.lst ((rows.map (atF m)).map rowV))
  generalize h5.length = r20 at *
  generalize h5 ++ [Ob.lst ((rows.map (atF m)).map rowV)] = h6 at *
  have ll : ∀ z, (rows.map (atF z)).length = rows.length := fun z => List.length_map ..
  have g0 := at_good good (m := 0) (by decide) (by decide)
  have gm := at_good good m0 (by omega)
  refine wSs_step ?_; simp_arith []
  refine ⟨r14, rows.map (atF 0), rfl, X6 _ _ e4, by rw [ll]; exact l1, by rw [ll]; exact l30, g0, fun s1 last1 d1 ms1 o1 q1 h7 T1 X7 _ _ _ _ _ _ => ?_⟩
  rw [plain_late good l1 g0 T1]
  simp_arith [i30]
  have er7 := X7 _ _ (X6 _ _ (X04 _ _ (X2 _ _ er)))
  refine ⟨rR, rows, rfl, er7, l1, l30, good, fun o s S h8 X8 _ _ _ _ _ _ _ _ => ?_⟩
  simp_arith [i30, Int.add_zero]
  refine ⟨r20, rows.map (atF m), rfl, X8 _ _ (X7 _ _ e6), by rw [ll]; exact l1, by rw [ll]; exact l30, gm, fun s2 last2 d2 ms2 o2 q2 h9 T2 X9 _ _ _ _ _ _ => ?_⟩
  rw [plain_late good l1 gm T2]
  simp_arith [i30]
  refine ⟨rR, rows, rfl, X9 _ _ (X8 _ _ er7), l1, l30, good, fun o s S h10 X10 _ _ _ _ _ _ _ _ => ?_⟩
  simp_arith [i30]
  exact k _
def ir_l4t : List Sm := [.set (.nm 13) (.call 3 [(.var 0), (.bin .Add (.int 40) (.var 12))]), .ife (.cmp .Lt (.call 4 [(.var 1), (.call 5 [(.var 13), (.bi .len [(.var 1)])])]) (.var 2)) [.ret (.bl false)] []]
def ir_l4 : List Sm := .for_ (.nm 12) (.rng1 (.int 4)) ir_l4t :: ir_l5
theorem l4t_ok {ns : List Int} {rows : Rows} {s : St} {w : Hs} {ms : List Int} {rR pR sR i : Nat} {h : Hep} {D : Dz} {y3 y4 y5 y6 y7 y8 y9 y10 y11 y13 y14 y15 y16 y17 y18 y19 y20 : Option PV} (hl : ns.length ≤ 63) (il : i < 4) (H : Here rows s w ms h rR pR sR)
    (k : ∀ y13 h', Ext h h' → D.nx [some (.ils (ns.map PV.int)), some (.ref rR), some (.int (maxL (lateL rows s))), y3, y4, y5, y6, y7, y8, y9, y10, y11, some (.int (i : Int)), y13, y14, y15, y16, y17, y18, y19, y20] h') :
    wSs GL ir_l4t [some (.ils (ns.map PV.int)), some (.ref rR), some (.int (maxL (lateL rows s))), y3, y4, y5, y6, y7, y8, y9, y10, y11, some (.int (i : Int)), y13, y14, y15, y16, y17, y18, y19, y20] h D := by
  unfold ir_l4t
  refine wSs_step ?_; simp_arith []
  refine ⟨ns, 40 + (i : Int), rfl, hl, by omega, by omega, fun d h1 x1 f1 D1 => ?_⟩
  simp_arith []
  have er1 := x1 _ _ H.er
  refine wSs_step ?_; simp_arith [er1]
  refine ⟨d, rows.length, rfl, D1, H.l30, fun r h2 os X2 lr er O D2 => ?_⟩
  try simp_arith []
  have x02 : Ext h h2 := ExtB.ext x1 X2 f1
  have ol : os.length = rows.length := by rw [O.length_eq, nums_len]
  have l1 := H.l1
  have l30 := H.l30
  refine ⟨rR, r, rows, os, rfl, x02 _ _ H.er, er, fun z => by rw [z] at ol; simp at ol; omega, by omega, fun i hi => O.mem.mp hi, fun h3 X3 => ?_⟩
  have ge := order_ge H.good O H.mne H.mnd H.mr
  rw [H.sh] at ge
  have c : ¬ maxL (ends rows 0 os) < maxL (lateL rows s) := by omega
  simp_arith [c]
  exact k _ _ (x02.trans X3)
theorem l4_ok {ns : List Int} {rows : Rows} {s : St} {w : Hs} {ms : List Int} {rR pR sR : Nat} {h : Hep} {D : Dz} {y3 y4 y5 y6 y7 y8 y9 y10 y11 y12 y13 y14 y15 y16 y17 y18 y19 y20 : Option PV} (hl : ns.length ≤ 63) (H : Here rows s w ms h rR pR sR)
    (k : ∀ h', D.rt (.bl true) h') :
    wSs GL ir_l4 [some (.ils (ns.map PV.int)), some (.ref rR), some (.int (maxL (lateL rows s))), y3, y4, y5, y6, y7, y8, y9, y10, y11, y12, y13, y14, y15, y16, y17, y18, y19, y20] h D := by
  unfold ir_l4
  refine wSs_step ?_; simp_arith []
  refine wFor_num (fun i σ h' => Ext h h' ∧ ∃ y12 y13, σ = [some (.ils (ns.map PV.int)), some (.ref rR), some (.int (maxL (lateL rows s))), y3, y4, y5, y6, y7, y8, y9, y10, y11, y12, y13, y14, y15, y16, y17, y18, y19, y20]) 4 0 _ _ ⟨.rfl', _, _, rfl⟩ ?_ ?_
  · rintro i σ h' _ i2 ⟨X, y12, y13, rfl⟩
    refine ⟨_, rfl, fun K hK => ?_⟩
    show wSs GL ir_l4t [some (.ils (ns.map PV.int)), some (.ref rR), some (.int (maxL (lateL rows s))), y3, y4, y5, y6, y7, y8, y9, y10, y11, some (.int (i : Int)), y13, y14, y15, y16, y17, y18, y19, y20] _ _
    exact l4t_ok hl (by omega) (H.ext X) fun y13 h2 X2 => hK _ _ ⟨X.trans X2, _, y13, rfl⟩
  · rintro σ h' ⟨X, y12, y13, rfl⟩
    exact l5_ok hl H.good H.l1 H.l30 (X _ _ H.er) k
def ir_l3 : List Sm := .set (.nm 10) (.comp [11] (.nm 11) (.wlk (.var 4)) none (.idx (.var 1) (.var 11))) :: .ife (.cmp .NotEq (.bin .Sub (.bin .Add (.bi .minl [(.comp [9] (.nm 9) (.wlk (.var 10)) none (.idx (.var 9) (.int 1)))]) (.bi .sum [(.comp [9] (.nm 9) (.wlk (.var 10)) none (.idx (.var 9) (.int 0)))])) (.bi .maxl [(.comp [9] (.nm 9) (.wlk (.var 10)) none (.idx (.var 9) (.int 2)))])) (.var 2)) [.ret (.bl false)] [] :: ir_l4
theorem l3_ok {ns : List Int} {rows : Rows} {s : St} {w : Hs} {ms : List Int} {rR pR sR : Nat} {h : Hep} {D : Dz} {y3 y5 y6 y7 y8 y9 y10 y11 y12 y13 y14 y15 y16 y17 y18 y19 y20 : Option PV} (hl : ns.length ≤ 63) (H : Here rows s w ms h rR pR sR)
    (k : ∀ h', D.rt (.bl true) h') :
    wSs GL ir_l3 [some (.ils (ns.map PV.int)), some (.ref rR), some (.int (maxL (lateL rows s))), y3, some (.ref sR), y5, y6, y7, y8, y9, y10, y11, y12, y13, y14, y15, y16, y17, y18, y19, y20] h D := by
  have i40 : ixN 4 0 = some 0 := rfl
  have i41 : ixN 4 1 = some 1 := rfl
  have i42 : ixN 4 2 = some 2 := rfl
  have eq := H.es
  have er := H.er
  have l30 := H.l30
  have lm : ms.length ≤ 30 := by
    have := Zh.nodup_len (l := ms) (U := nums rows.length) H.mnd fun i hi => nums_mem.mpr (H.mr i hi)
    rw [nums_len] at this
    omega
  unfold ir_l3
  refine wSs_step ?_; simp_arith [eq]
  refine comp_fil (f := PV.int) (f2 := fun i => rowV (atR rows i)) (fun _ => true) (by omega) (fun h' X' => ⟨X' _ _ eq, trivial⟩) (fun i hi h' X' => ⟨_, rfl, fun G hG => hG _ X', fun _ h2 X2 G hG => ?_⟩) fun h2 X2 => ?_
  · obtain ⟨j0, j1⟩ := H.mr i hi
    have ij : ixN rows.length i = some i.toNat := ixN_int j0 j1
    have g := rows_get j0 j1
    simp_arith [X2 _ _ er, ij, g]
    exact hG _ X2
  have e2 : (ms.filter fun _ => true).map (fun i => rowV (atR rows i)) = (ownR rows ms).map rowV := by rw [List.filter_eq_self.mpr fun _ _ => rfl]; unfold ownR; rw [List.map_map]; rfl
  rw [e2]
  have X3 : Ext h (h2 ++ [Ob.lst ((ownR rows ms).map rowV)]) := X2.trans .app
  have e3 := new_get (h := h2) (o := Ob.lst ((ownR rows ms).map rowV))
  generalize h2.length = r22 at *
  generalize h2 ++ [Ob.lst ((ownR rows ms).map rowV)] = h3 at *
  have lO : (ownR rows ms).length = ms.length := by unfold ownR; rw [List.length_map]
  have m1 : (ownR rows ms).map (·.2.1) = ms.map (firR rows) := by unfold ownR; rw [List.map_map]; rfl
  have m0 : (ownR rows ms).map (·.1) = ms.map (lenR rows) := by unfold ownR; rw [List.map_map]; rfl
  have m2 : (ownR rows ms).map (·.2.2.1) = ms.map (dueR rows) := by unfold ownR; rw [List.map_map]; rfl
  refine wSs_step ?_
  simp_arith [e3]
  refine comp_fil (f := rowV) (f2 := fun p => PV.int p.2.1) (fun _ => true) (by omega) (fun h' X' => ⟨X' _ _ e3, trivial⟩) (fun p hp h' X' => ⟨_, rfl, fun G hG => hG _ X', fun _ h2 X2 G hG => ?_⟩) fun h4 X4 => ?_
  · have rv : rowV p = .tup [.int p.1, .int p.2.1, .int p.2.2.1, .int p.2.2.2] := rfl
    simp_arith [rv, i41]
    exact hG _ X2
  have e4 : ((ownR rows ms).filter fun _ => true).map (fun p => PV.int p.2.1) = (ms.map (firR rows)).map PV.int := by rw [List.filter_eq_self.mpr fun _ _ => rfl, ← m1, List.map_map]; rfl
  rw [e4]
  try simp_arith [new_get]
  refine ⟨_, intsOf_map _, fun z => H.mne (List.map_eq_nil_iff.mp z), ?_⟩
  have e34 := app_get (j := [Ob.lst ((ms.map (firR rows)).map PV.int)]) (X4 _ _ e3)
  have X34 : Ext h3 (h4 ++ [Ob.lst ((ms.map (firR rows)).map PV.int)]) := X4.trans .app
  generalize h4 ++ [Ob.lst ((ms.map (firR rows)).map PV.int)] = h5 at *
  simp_arith [e34]
  refine comp_fil (f := rowV) (f2 := fun p => PV.int p.1) (fun _ => true) (by omega) (fun h' X' => ⟨X' _ _ e34, trivial⟩) (fun p hp h' X' => ⟨_, rfl, fun G hG => hG _ X', fun _ h2 X2 G hG => ?_⟩) fun h6 X6 => ?_
  · have rv : rowV p = .tup [.int p.1, .int p.2.1, .int p.2.2.1, .int p.2.2.2] := rfl
    simp_arith [rv, i40]
    exact hG _ X2
  have e6 : ((ownR rows ms).filter fun _ => true).map (fun p => PV.int p.1) = (ms.map (lenR rows)).map PV.int := by rw [List.filter_eq_self.mpr fun _ _ => rfl, ← m0, List.map_map]; rfl
  rw [e6]
  try simp_arith [new_get]
  refine ⟨_, intsOf_map _, ?_⟩
  have e36 := app_get (j := [Ob.lst ((ms.map (lenR rows)).map PV.int)]) (X6 _ _ e34)
  have X36 : Ext h3 (h6 ++ [Ob.lst ((ms.map (lenR rows)).map PV.int)]) := X34.trans (X6.trans .app)
  generalize h6 ++ [Ob.lst ((ms.map (lenR rows)).map PV.int)] = h7 at *
  simp_arith [e36]
  refine comp_fil (f := rowV) (f2 := fun p => PV.int p.2.2.1) (fun _ => true) (by omega) (fun h' X' => ⟨X' _ _ e36, trivial⟩) (fun p hp h' X' => ⟨_, rfl, fun G hG => hG _ X', fun _ h2 X2 G hG => ?_⟩) fun h8 X8 => ?_
  · have rv : rowV p = .tup [.int p.1, .int p.2.1, .int p.2.2.1, .int p.2.2.2] := rfl
    simp_arith [rv, i42]
    exact hG _ X2
  have e8 : ((ownR rows ms).filter fun _ => true).map (fun p => PV.int p.2.2.1) = (ms.map (dueR rows)).map PV.int := by rw [List.filter_eq_self.mpr fun _ _ => rfl, ← m2, List.map_map]; rfl
  rw [e8]
  try simp_arith [new_get]
  refine ⟨_, intsOf_map _, fun z => H.mne (List.map_eq_nil_iff.mp z), ?_⟩
  have X39 : Ext h (h8 ++ [Ob.lst ((ms.map (dueR rows)).map PV.int)]) := X3.trans (X36.trans (X8.trans .app))
  generalize h8 ++ [Ob.lst ((ms.map (dueR rows)).map PV.int)] = h9 at *
  rw [show (minL (ms.map (firR rows)) + (ms.map (lenR rows)).sum - maxL (ms.map (dueR rows)) == maxL (lateL rows s)) = true from beq_iff_eq.mpr H.sh]
  simp_arith []
  exact l4_ok hl (H.ext X39) k
def ir_l2 : List Sm := .set (.nm 5) (.comp [6] (.nm 6) (.rng1 (.bi .len [(.var 1)])) none (.bi .maxl [(.comp [7] (.nm 7) (.wlk (.var 3)) (some (.cmp .Eq (.idx (.var 7) (.int 0)) (.var 6))) (.idx (.var 7) (.int 2)))])) :: .ife (.cmp .NotEq (.bi .maxl [(.comp [8, 9] (.tp [(.nm 8), (.nm 9)]) (.zip (.var 5) (.var 1)) none (.bin .Sub (.var 8) (.idx (.var 9) (.int 2))))]) (.var 2)) [.ret (.bl false)] [] :: ir_l3
theorem l2_ok {ns : List Int} {rows : Rows} {s : St} {w : Hs} {ms : List Int} {rR pR sR : Nat} {h4 : Hep} {D : Dz} {y5 y6 y7 y8 y9 y10 y11 y12 y13 y14 y15 y16 y17 y18 y19 y20 : Option PV} (hl : ns.length ≤ 63) (H : Here rows s w ms h4 rR pR sR)
    (k : ∀ h', D.rt (.bl true) h') :
    wSs GL ir_l2 [some (.ils (ns.map PV.int)), some (.ref rR), some (.int (maxL (lateL rows s))), some (.ref pR), some (.ref sR), y5, y6, y7, y8, y9, y10, y11, y12, y13, y14, y15, y16, y17, y18, y19, y20] h4 D := by
  have er4 := H.er
  have ep := H.ep
  have F := H.F
  have l30 := H.l30
  have ne := H.ne
  have lL : (srtT s.pcs).length ≤ 40000 := by rw [(srtT_perm s.pcs).length_eq]; exact H.lp
  have i30 : ixN 3 0 = some 0 := rfl
  have i32 : ixN 3 2 = some 2 := rfl
  have i42 : ixN 4 2 = some 2 := rfl
  unfold ir_l2
  refine wSs_step ?_; simp_arith [er4]
  refine ⟨by omega, by omega, ?_⟩
  try rw [Int.toNat_natCast]
  refine comp_fil (l := List.range rows.length) (f := fun (i : Nat) => PV.int (0 + (i : Int))) (f2 := fun i => PV.int (endI (srtT s.pcs) i)) (fun _ => true) (by rw [List.length_range]; omega) (fun h' X' => trivial) (fun i hi h' X' => ⟨_, rfl, fun G hG => hG _ X', fun _ h2 X2 G hG => ?_⟩) fun h5 X5 => ?_
  · have il := List.mem_range.mp hi
    simp_arith [X2 _ _ ep]
    refine comp_fil (f := pcV) (f2 := fun p => PV.int p.2.2) (fun p => p.1 == (i : Int)) (by omega) (fun h' X' => ⟨X' _ _ (X2 _ _ ep), trivial⟩) (fun p hp h' X' => ⟨_, rfl, fun G hG => ?_, fun _ h2 X2 G hG => ?_⟩) fun h6 X6 => ?_
    · have pv : pcV p = .tup [.int p.1, .int p.2.1, .int p.2.2] := rfl
      have := hG _ X'
      simp_arith [pv, i30, Int.zero_add]
      exact this
    · have pv : pcV p = .tup [.int p.1, .int p.2.1, .int p.2.2] := rfl
      simp_arith [pv, i32]
      exact hG _ X2
    · have e6 : ((srtT s.pcs).filter fun p => p.1 == (i : Int)).map (fun p => PV.int p.2.2) = (((srtT s.pcs).filter fun p => p.1 == (i : Int)).map (·.2.2)).map PV.int := by rw [List.map_map]; rfl
      rw [e6]
      try simp_arith [new_get]
      exact ⟨_, intsOf_map _, (ends_is F il (srtT_perm s.pcs)).1, hG _ (X2.trans (X6.trans .app))⟩
  have e5 : ((List.range rows.length).filter fun _ => true).map (fun i => PV.int (endI (srtT s.pcs) i)) = s.done.map PV.int := by
    rw [List.filter_eq_self.mpr fun _ _ => rfl, ← ends_all F (srtT_perm s.pcs), List.map_map]; rfl
  rw [e5]
  have X6 : Ext h4 (h5 ++ [Ob.lst (s.done.map PV.int)]) := X5.trans .app
  have e6 := new_get (h := h5) (o := Ob.lst (s.done.map PV.int))
  generalize h5.length = r6 at *
  generalize h5 ++ [Ob.lst (s.done.map PV.int)] = h6 at *
  have er6 := X6 _ _ er4
  have dl := F.dl
  refine wSs_step ?_
  simp_arith [e6, er6]
  rw [zipL_gen]
  refine comp_fil (f := fun p : Int × Row => .tup [.int p.1, rowV p.2]) (f2 := fun p => PV.int (lateP p)) (fun _ => true) (by rw [List.length_zip]; omega) (fun h' X => ⟨X _ _ e6, X _ _ er6, trivial⟩) (fun w hw h' X => ⟨_, rfl, fun G hG => hG _ X, fun _ h2 X2 G hG => ?_⟩) fun h7 X7 => ?_
  · have rv : rowV w.2 = .tup [.int w.2.1, .int w.2.2.1, .int w.2.2.2.1, .int w.2.2.2.2] := rfl
    simp_arith [rv, i42]
    exact hG _ X2
  have e7 : ((s.done.zip rows).filter fun _ => true).map (fun p => PV.int (lateP p)) = (lateL rows s).map PV.int := by rw [List.filter_eq_self.mpr fun _ _ => rfl]; unfold lateL; rw [List.map_map]; rfl
  rw [e7]
  try simp_arith [new_get]
  have lne : lateL rows s ≠ [] := fun z => by
    have : (lateL rows s).length = rows.length := by unfold lateL; rw [List.length_map, List.length_zip, F.dl, Nat.min_self]
    rw [z] at this
    exact ne (List.eq_nil_of_length_eq_zero this.symm)
  refine ⟨_, intsOf_map _, lne, ?_⟩
  rw [show (maxL (lateL rows s) == maxL (lateL rows s)) = true from beq_self_eq_true _]
  try simp_arith []
  have X8 : Ext h4 (h7 ++ [Ob.lst ((lateL rows s).map PV.int)]) := X6.trans (X7.trans .app)
  generalize h7 ++ [Ob.lst ((lateL rows s).map PV.int)] = h8 at *
  exact l3_ok hl (H.ext X8) k
theorem mt_law : Meets GL 21 1 ir_law (spLaw 63) := by
  rintro args h G E ⟨ns, rfl, rfl, hl, kf⟩
  refine ⟨rfl, ?_⟩
  rw [show ir_law = .set (.nm 1) (.call 0 [(.var 0), (.int 0), (.int 30)]) :: .set (.tp [(.nm 2), (.nm 3), (.nm 4)]) (.call 1 [(.var 1)]) :: .ife (.not (.call 2 [(.var 1), (.var 3)])) [.ret (.bl false)] [] :: ir_l2 from rfl]
  show wSs _ _ [some (.ils (ns.map PV.int)), none, none, none, none, none, none, none, none, none, none, none, none, none, none, none, none, none, none, none, none] _ _
  refine wSs_step ?_; simp_arith []
  refine ⟨ns, 0, 30, rfl, hl, by decide, by decide, by decide, by decide, fun rR h1 rows X1 _ er l1 lm good => ?_⟩
  try simp_arith []
  have l30 : rows.length ≤ 30 := by omega
  refine wSs_step ?_; simp_arith []
  refine ⟨rR, rows, rfl, er, l1, l30, good, fun s last e ms o q h2 T X2 lo oq eo eq pm pw => ?_⟩
  try simp_arith []
  obtain ⟨w, F⟩ := fin_of good T.r T.g
  obtain ⟨mne, mnd, mr, sh⟩ := crowd_shows good T F pm
  have lp : s.pcs.length ≤ 40000 := by have := pcs_bd good l30 T.r; omega
  refine wSs_step ?_; simp_arith []
  refine ⟨rR, o, rows, s, w, srtT s.pcs, rfl, X2 _ _ er, eo, F, srtT_perm _, l30, by rw [(srtT_perm s.pcs).length_eq]; exact lp, fun h3 X3 => ?_⟩
  simp_arith []
  exact l2_ok hl ⟨F, good, l1, l30, lp, X3 _ _ (X2 _ _ er), X3 _ _ eo, X3 _ _ eq, mne, mnd, mr, sh⟩ kf
end Law

namespace Law
open PySem L2 Z
section
variable {P : Program} {w : World} {K : PySem.W.Frag} {mg : Str → Option Value} {base : Heap}
theorem meR_mono {k k' : Nat} {c m : Str} {S : Z.Spec} (h : MeR P w K mg base k c m S) (q : k ≤ k') : MeR P w K mg base k' c m S := by
  obtain ⟨C, f, fd, ps, j, sp, ds, dvs, h1, h2, h2', h3, h4, h5⟩ := h
  exact ⟨C, f, fd, ps, j, sp, ds, dvs, h1, h2, h2', h3, by omega, h5⟩
theorem nwR_mono {k k' : Nat} {c : Str} {S : Z.Spec} (h : NwR P w K mg base k c S) (q : k ≤ k') : NwR P w K mg base k' c S := by
  obtain ⟨C, f, fd, ps, j, sp, ds, dvs, h1, h2, h3, h4, h5⟩ := h
  exact ⟨C, f, fd, ps, j, sp, ds, dvs, h1, h2, h3, by omega, h5⟩
structure Txt (K : PySem.W.Frag) (mg : Str → Option Value) : Prop where
  bl : ∀ n ∈ blts, mg n = none
  cn : ∀ p ∈ cs, ∃ (u : Value) (t : V), mg p.1 = some u ∧ RelV t u ∧ ∀ (ρ : List Addr) (H : Hp), Rep K ρ H p.2 t
theorem fn_is_whole {f : Addr} {fd : FuncData} (T : Txt K mg) (F : Fun K "is_whole" "is_whole" s_is_whole f fd) (hm : mg "is_whole" = some (.ref f)) (kp : PySem.W.keepIn K (.ref f) = true) (b : Binds K fd ["thing"] []) : FnR P w K mg base 1 "is_whole" sp_is_whole :=
  fnr_of hm kp (def_ok F sc_is_whole lk_is_whole T.bl (fun i g e => by
    match i, e with
    | i + 0, e => cases e) T.cn mt_is_whole) b
theorem fn_is_among {f : Addr} {fd : FuncData} (T : Txt K mg) (F : Fun K "is_among" "is_among" s_is_among f fd) (hm : mg "is_among" = some (.ref f)) (kp : PySem.W.keepIn K (.ref f) = true) (b : Binds K fd ["thing", "least", "most"] []) (h0 : FnR P w K mg base 1 "is_whole" sp_is_whole) : FnR P w K mg base 2 "is_among" sp_is_among :=
  fnr_of hm kp (def_ok F sc_is_among lk_is_among T.bl (fun i g e => by
    match i, e with
    | 0, e => cases e; exact ⟨_, rfl, h0⟩
    | i + 1, e => cases e) T.cn mt_is_among) b
theorem fn_is_work {f : Addr} {fd : FuncData} (T : Txt K mg) (F : Fun K "is_work" "is_work" s_is_work f fd) (hm : mg "is_work" = some (.ref f)) (kp : PySem.W.keepIn K (.ref f) = true) (b : Binds K fd ["thing"] []) (h0 : FnR P w K mg base 2 "is_among" sp_is_among) : FnR P w K mg base 3 "is_work" sp_is_work :=
  fnr_of hm kp (def_ok F sc_is_work lk_is_work T.bl (fun i g e => by
    match i, e with
    | 0, e => cases e; exact ⟨_, rfl, h0⟩
    | i + 1, e => cases e) T.cn mt_is_work) b
theorem fn_need_rows {f : Addr} {fd : FuncData} (T : Txt K mg) (F : Fun K "need_rows" "need_rows" s_need_rows f fd) (hm : mg "need_rows" = some (.ref f)) (kp : PySem.W.keepIn K (.ref f) = true) (b : Binds K fd ["rows"] []) (h0 : FnR P w K mg base 3 "is_work" sp_is_work) : FnR P w K mg base 4 "need_rows" sp_need_rows :=
  fnr_of hm kp (def_ok F sc_need_rows lk_need_rows T.bl (fun i g e => by
    match i, e with
    | 0, e => cases e; exact ⟨_, rfl, h0⟩
    | i + 1, e => cases e) T.cn mt_need_rows) b
theorem fn_due_order {f : Addr} {fd : FuncData} (T : Txt K mg) (F : Fun K "due_order" "due_order" s_due_order f fd) (hm : mg "due_order" = some (.ref f)) (kp : PySem.W.keepIn K (.ref f) = true) (b : Binds K fd ["rows"] []) : FnR P w K mg base 1 "due_order" sp_due_order :=
  fnr_of hm kp (def_ok F sc_due_order lk_due_order T.bl (fun i g e => by
    match i, e with
    | i + 0, e => cases e) T.cn mt_due_order) b
theorem fn_least_late {f : Addr} {fd : FuncData} (T : Txt K mg) (F : Fun K "least_late" "least_late" s_least_late f fd) (hm : mg "least_late" = some (.ref f)) (kp : PySem.W.keepIn K (.ref f) = true) (b : Binds K fd ["rows"] []) (h0 : FnR P w K mg base 4 "need_rows" sp_need_rows) (h1 : FnR P w K mg base 4 "due_order" sp_due_order) : FnR P w K mg base 5 "least_late" sp_least_late :=
  fnr_of hm kp (def_ok F sc_least_late lk_least_late T.bl (fun i g e => by
    match i, e with
    | 0, e => cases e; exact ⟨_, rfl, h0⟩
    | 1, e => cases e; exact ⟨_, rfl, h1⟩
    | i + 2, e => cases e) T.cn mt_least_late) b
theorem fn_Work___init__ {f : Addr} {fd : FuncData} (T : Txt K mg) (F : Fun K "__init__" "Work.__init__" s_Work___init__ f fd) (h0 : ClR K mg "Work" ["done_at", "hour", "left", "pieces", "rows"]) : FnOk P w K mg base (L2.CX P w) 1 f fd ["self", "rows"] (lift K mg sp_Work___init__) :=
  def_ok F sc_Work___init__ lk_Work___init__ T.bl (fun i g e => by
    match i, e with
    | 0, e => cases e; exact ⟨_, rfl, h0⟩
    | i + 1, e => cases e) T.cn mt_Work___init__
theorem fn_Work_who_works {f : Addr} {fd : FuncData} (T : Txt K mg) (F : Fun K "who_works" "Work.who_works" s_Work_who_works f fd) (h0 : ClR K mg "Work" ["done_at", "hour", "left", "pieces", "rows"]) : FnOk P w K mg base (L2.CX P w) 1 f fd ["self"] (lift K mg sp_Work_who_works) :=
  def_ok F sc_Work_who_works lk_Work_who_works T.bl (fun i g e => by
    match i, e with
    | 0, e => cases e; exact ⟨_, rfl, h0⟩
    | i + 1, e => cases e) T.cn mt_Work_who_works
theorem fn_Work_next_come {f : Addr} {fd : FuncData} (T : Txt K mg) (F : Fun K "next_come" "Work.next_come" s_Work_next_come f fd) (h0 : ClR K mg "Work" ["done_at", "hour", "left", "pieces", "rows"]) : FnOk P w K mg base (L2.CX P w) 1 f fd ["self"] (lift K mg sp_Work_next_come) :=
  def_ok F sc_Work_next_come lk_Work_next_come T.bl (fun i g e => by
    match i, e with
    | 0, e => cases e; exact ⟨_, rfl, h0⟩
    | i + 1, e => cases e) T.cn mt_Work_next_come
theorem fn_Work_go_on {f : Addr} {fd : FuncData} (T : Txt K mg) (F : Fun K "go_on" "Work.go_on" s_Work_go_on f fd) (h0 : MeR P w K mg base 1 "Work" "who_works" sp_Work_who_works) (h1 : MeR P w K mg base 1 "Work" "next_come" sp_Work_next_come) (h2 : ClR K mg "Work" ["done_at", "hour", "left", "pieces", "rows"]) (h3 : MeR P w K mg base 1 "Work" "put" sp_Work_put) : FnOk P w K mg base (L2.CX P w) 2 f fd ["self"] (lift K mg sp_Work_go_on) :=
  def_ok F sc_Work_go_on lk_Work_go_on T.bl (fun i g e => by
    match i, e with
    | 0, e => cases e; exact ⟨_, rfl, h0⟩
    | 1, e => cases e; exact ⟨_, rfl, h1⟩
    | 2, e => cases e; exact ⟨_, rfl, h2⟩
    | 3, e => cases e; exact ⟨_, rfl, h3⟩
    | i + 4, e => cases e) T.cn mt_Work_go_on
theorem fn_Work_put {f : Addr} {fd : FuncData} (T : Txt K mg) (F : Fun K "put" "Work.put" s_Work_put f fd) (h0 : ClR K mg "Work" ["done_at", "hour", "left", "pieces", "rows"]) : FnOk P w K mg base (L2.CX P w) 1 f fd ["self", "number", "behind"] (lift K mg sp_Work_put) :=
  def_ok F sc_Work_put lk_Work_put T.bl (fun i g e => by
    match i, e with
    | 0, e => cases e; exact ⟨_, rfl, h0⟩
    | i + 1, e => cases e) T.cn mt_Work_put
theorem fn_crowd_to {f : Addr} {fd : FuncData} (T : Txt K mg) (F : Fun K "crowd_to" "crowd_to" s_crowd_to f fd) (hm : mg "crowd_to" = some (.ref f)) (kp : PySem.W.keepIn K (.ref f) = true) (b : Binds K fd ["rows", "pieces", "last", "end"] []) : FnR P w K mg base 1 "crowd_to" sp_crowd_to :=
  fnr_of hm kp (def_ok F sc_crowd_to lk_crowd_to T.bl (fun i g e => by
    match i, e with
    | i + 0, e => cases e) T.cn mt_crowd_to) b
theorem fn_parted {f : Addr} {fd : FuncData} (T : Txt K mg) (F : Fun K "parted" "parted" s_parted f fd) (hm : mg "parted" = some (.ref f)) (kp : PySem.W.keepIn K (.ref f) = true) (b : Binds K fd ["rows"] []) (h0 : FnR P w K mg base 4 "need_rows" sp_need_rows) (h1 : NwR P w K mg base 4 "Work" sp_Work___init__) (h2 : ClR K mg "Work" ["done_at", "hour", "left", "pieces", "rows"]) (h3 : MeR P w K mg base 4 "Work" "go_on" sp_Work_go_on) (h4 : FnR P w K mg base 4 "crowd_to" sp_crowd_to) : FnR P w K mg base 5 "parted" sp_parted :=
  fnr_of hm kp (def_ok F sc_parted lk_parted T.bl (fun i g e => by
    match i, e with
    | 0, e => cases e; exact ⟨_, rfl, h0⟩
    | 1, e => cases e; exact ⟨_, rfl, h1⟩
    | 2, e => cases e; exact ⟨_, rfl, h2⟩
    | 3, e => cases e; exact ⟨_, rfl, h3⟩
    | 4, e => cases e; exact ⟨_, rfl, h4⟩
    | i + 5, e => cases e) T.cn mt_parted) b
theorem fn__law_mixed {f : Addr} {fd : FuncData} (T : Txt K mg) (F : Fun K "_law_mixed" "_law_mixed" s__law_mixed f fd) (hm : mg "_law_mixed" = some (.ref f)) (kp : PySem.W.keepIn K (.ref f) = true) (b : Binds K fd ["_law_cell", "_law_k"] []) : FnR P w K mg base 1 "_law_mixed" sp__law_mixed :=
  fnr_of hm kp (def_ok F sc__law_mixed lk__law_mixed T.bl (fun i g e => by
    match i, e with
    | i + 0, e => cases e) T.cn mt__law_mixed) b
theorem fn__law_draw {f : Addr} {fd : FuncData} (T : Txt K mg) (F : Fun K "_law_draw" "_law_draw" s__law_draw f fd) (hm : mg "_law_draw" = some (.ref f)) (kp : PySem.W.keepIn K (.ref f) = true) (b : Binds K fd ["_law_script", "_law_k"] []) : FnR P w K mg base 1 "_law_draw" sp__law_draw :=
  fnr_of hm kp (def_ok F sc__law_draw lk__law_draw T.bl (fun i g e => by
    match i, e with
    | i + 0, e => cases e) T.cn mt__law_draw) b
theorem fn__law_next {f : Addr} {fd : FuncData} (T : Txt K mg) (F : Fun K "_law_next" "_law_next" s__law_next f fd) (hm : mg "_law_next" = some (.ref f)) (kp : PySem.W.keepIn K (.ref f) = true) (b : Binds K fd ["_law_draw_here", "_law_many"] []) (h0 : FnR P w K mg base 1 "_law_mixed" sp__law_mixed) : FnR P w K mg base 2 "_law_next" sp__law_next :=
  fnr_of hm kp (def_ok F sc__law_next lk__law_next T.bl (fun i g e => by
    match i, e with
    | 0, e => cases e; exact ⟨_, rfl, h0⟩
    | i + 1, e => cases e) T.cn mt__law_next) b
theorem fn__law_work {f : Addr} {fd : FuncData} (T : Txt K mg) (F : Fun K "_law_work" "_law_work" s__law_work f fd) (hm : mg "_law_work" = some (.ref f)) (kp : PySem.W.keepIn K (.ref f) = true) (b : Binds K fd ["_law_draw_here"] []) (h0 : FnR P w K mg base 2 "_law_next" sp__law_next) : FnR P w K mg base 3 "_law_work" sp__law_work :=
  fnr_of hm kp (def_ok F sc__law_work lk__law_work T.bl (fun i g e => by
    match i, e with
    | 0, e => cases e; exact ⟨_, rfl, h0⟩
    | i + 1, e => cases e) T.cn mt__law_work) b
theorem fn__law_rows {f : Addr} {fd : FuncData} (T : Txt K mg) (F : Fun K "_law_rows" "_law_rows" s__law_rows f fd) (hm : mg "_law_rows" = some (.ref f)) (kp : PySem.W.keepIn K (.ref f) = true) (b : Binds K fd ["_law_script", "_law_k", "_law_most"] []) (h0 : FnR P w K mg base 3 "_law_draw" sp__law_draw) (h1 : FnR P w K mg base 3 "_law_next" sp__law_next) (h2 : FnR P w K mg base 3 "_law_work" sp__law_work) : FnR P w K mg base 4 "_law_rows" sp__law_rows :=
  fnr_of hm kp (def_ok F sc__law_rows lk__law_rows T.bl (fun i g e => by
    match i, e with
    | 0, e => cases e; exact ⟨_, rfl, h0⟩
    | 1, e => cases e; exact ⟨_, rfl, h1⟩
    | 2, e => cases e; exact ⟨_, rfl, h2⟩
    | i + 3, e => cases e) T.cn mt__law_rows) b
theorem fn__law_order {f : Addr} {fd : FuncData} (T : Txt K mg) (F : Fun K "_law_order" "_law_order" s__law_order f fd) (hm : mg "_law_order" = some (.ref f)) (kp : PySem.W.keepIn K (.ref f) = true) (b : Binds K fd ["_law_draw_here", "_law_many"] []) (h0 : FnR P w K mg base 2 "_law_next" sp__law_next) : FnR P w K mg base 3 "_law_order" sp__law_order :=
  fnr_of hm kp (def_ok F sc__law_order lk__law_order T.bl (fun i g e => by
    match i, e with
    | 0, e => cases e; exact ⟨_, rfl, h0⟩
    | i + 1, e => cases e) T.cn mt__law_order) b
theorem fn__law_pieces_right {f : Addr} {fd : FuncData} (T : Txt K mg) (F : Fun K "_law_pieces_right" "_law_pieces_right" s__law_pieces_right f fd) (hm : mg "_law_pieces_right" = some (.ref f)) (kp : PySem.W.keepIn K (.ref f) = true) (b : Binds K fd ["_law_rows_here", "_law_pieces"] []) : FnR P w K mg base 1 "_law_pieces_right" sp__law_pieces_right :=
  fnr_of hm kp (def_ok F sc__law_pieces_right lk__law_pieces_right T.bl (fun i g e => by
    match i, e with
    | i + 0, e => cases e) T.cn mt__law_pieces_right) b
theorem fn__law_later {f : Addr} {fd : FuncData} (T : Txt K mg) (F : Fun K "_law_later" "_law_later" s__law_later f fd) (hm : mg "_law_later" = some (.ref f)) (kp : PySem.W.keepIn K (.ref f) = true) (b : Binds K fd ["_law_rows_here", "_law_order_here"] []) : FnR P w K mg base 1 "_law_later" sp__law_later :=
  fnr_of hm kp (def_ok F sc__law_later lk__law_later T.bl (fun i g e => by
    match i, e with
    | i + 0, e => cases e) T.cn mt__law_later) b
theorem ok_law {f : Addr} {fd : FuncData} (T : Txt K mg) (F : Fun K "law" "law" s_law f fd) (h0 : FnR P w K mg base 5 "_law_rows" sp__law_rows) (h1 : FnR P w K mg base 5 "parted" sp_parted) (h2 : FnR P w K mg base 5 "_law_pieces_right" sp__law_pieces_right) (h3 : FnR P w K mg base 5 "_law_draw" sp__law_draw) (h4 : FnR P w K mg base 5 "_law_later" sp__law_later) (h5 : FnR P w K mg base 5 "_law_order" sp__law_order) (h6 : FnR P w K mg base 5 "_law_next" sp__law_next) (h7 : FnR P w K mg base 5 "least_late" sp_least_late) : FnOk P w K mg base (L2.CX P w) 6 f fd ["_law_script"] (lift K mg (spLaw 63)) :=
  def_ok F sc_law lk_law T.bl (fun i g e => by
    match i, e with
    | 0, e => cases e; exact ⟨_, rfl, h0⟩
    | 1, e => cases e; exact ⟨_, rfl, h1⟩
    | 2, e => cases e; exact ⟨_, rfl, h2⟩
    | 3, e => cases e; exact ⟨_, rfl, h3⟩
    | 4, e => cases e; exact ⟨_, rfl, h4⟩
    | 5, e => cases e; exact ⟨_, rfl, h5⟩
    | 6, e => cases e; exact ⟨_, rfl, h6⟩
    | 7, e => cases e; exact ⟨_, rfl, h7⟩
    | i + 8, e => cases e) T.cn mt_law
end
set_option maxHeartbeats 0 in
theorem all_mk {P : Program} {w : World} {K : PySem.W.Frag} {h : Heap} {mg : Str → Option Value} {fa f0 f1 f2 f3 f4 f5 f6 f7 f8 f9 f10 f11 f12 f13 f14 f15 f16 f17 f18 f19 f20 f21 : Addr} (X : K.In h) (G : h.Ns mainGlobals mg) (hfa : mg "law" = some (.ref fa))
    {od0 an0 od1 an1 od2 an2 od3 an3 od4 an4 od5 an5 od6 an6 od7 an7 od8 an8 od9 an9 od10 an10 od11 an11 od12 an12 od13 an13 od14 an14 od15 an15 od16 an16 od17 an17 od18 an18 od19 an19 od20 an20 od21 an21 : Option Addr} {sl0 sl1 sl2 sl3 sl4 sl5 sl6 sl7 sl8 sl9 sl10 sl11 sl12 sl13 sl14 sl15 sl16 sl17 sl18 sl19 sl20 sl21 : Array (Option Value)}
    {oc0 kV0 dc0 pm0 cd0 ct0 oc1 kV1 dc1 pm1 cd1 ct1 oc2 kV2 dc2 pm2 cd2 ct2 oc3 kV3 dc3 pm3 cd3 ct3 oc4 kV4 dc4 pm4 cd4 ct4 oc5 kV5 dc5 pm5 cd5 ct5 oc6 kV6 dc6 pm6 cd6 ct6 oc7 kV7 dc7 pm7 cd7 ct7 oc8 kV8 dc8 pm8 cd8 ct8 oc9 kV9 dc9 pm9 cd9 ct9 oc10 kV10 dc10 pm10 cd10 ct10 oc11 kV11 dc11 pm11 cd11 ct11 oc12 kV12 dc12 pm12 cd12 ct12 oc13 kV13 dc13 pm13 cd13 ct13 oc14 kV14 dc14 pm14 cd14 ct14 oc15 kV15 dc15 pm15 cd15 ct15 oc16 kV16 dc16 pm16 cd16 ct16 oc17 kV17 dc17 pm17 cd17 ct17 oc18 kV18 dc18 pm18 cd18 ct18 oc19 kV19 dc19 pm19 cd19 ct19 oc20 kV20 dc20 pm20 cd20 ct20 oc21 kV21 dc21 pm21 cd21 ct21 : Value}
    {Cc0 : Addr}
    (ua0 : PySem.W.nsIn K mainGlobals "Work" = some (some (.ref Cc0))) (ub0 : L2.Cls K Cc0) (uf0_0 : PySem.W.findIn K (.ref Cc0) "done_at" = some none) (uf0_1 : PySem.W.findIn K (.ref Cc0) "hour" = some none) (uf0_2 : PySem.W.findIn K (.ref Cc0) "left" = some none) (uf0_3 : PySem.W.findIn K (.ref Cc0) "pieces" = some none) (uf0_4 : PySem.W.findIn K (.ref Cc0) "rows" = some none) (um0 : PySem.W.makesIn K Cc0 = true) (uk0 : PySem.W.keepIn K (.ref Cc0) = true)
    (a0 : PySem.W.nsIn K mainGlobals "is_whole" = some (some (.ref f0))) (l0 : K.lookup f0 = some ⟨oc0, od0, .func (PySem.W.fnOf "is_whole" "is_whole" (defArgs s_is_whole) (defBody s_is_whole) (defScope s_is_whole) .none kV0 dc0 pm0 an0 cd0 ct0), sl0⟩) (c0 : PySem.W.codeIn K cd0 "is_whole" = true) (k0 : PySem.W.keepIn K (.ref f0) = true)
    (a1 : PySem.W.nsIn K mainGlobals "is_among" = some (some (.ref f1))) (l1 : K.lookup f1 = some ⟨oc1, od1, .func (PySem.W.fnOf "is_among" "is_among" (defArgs s_is_among) (defBody s_is_among) (defScope s_is_among) .none kV1 dc1 pm1 an1 cd1 ct1), sl1⟩) (c1 : PySem.W.codeIn K cd1 "is_among" = true) (k1 : PySem.W.keepIn K (.ref f1) = true)
    (a2 : PySem.W.nsIn K mainGlobals "is_work" = some (some (.ref f2))) (l2 : K.lookup f2 = some ⟨oc2, od2, .func (PySem.W.fnOf "is_work" "is_work" (defArgs s_is_work) (defBody s_is_work) (defScope s_is_work) .none kV2 dc2 pm2 an2 cd2 ct2), sl2⟩) (c2 : PySem.W.codeIn K cd2 "is_work" = true) (k2 : PySem.W.keepIn K (.ref f2) = true)
    (a3 : PySem.W.nsIn K mainGlobals "need_rows" = some (some (.ref f3))) (l3 : K.lookup f3 = some ⟨oc3, od3, .func (PySem.W.fnOf "need_rows" "need_rows" (defArgs s_need_rows) (defBody s_need_rows) (defScope s_need_rows) .none kV3 dc3 pm3 an3 cd3 ct3), sl3⟩) (c3 : PySem.W.codeIn K cd3 "need_rows" = true) (k3 : PySem.W.keepIn K (.ref f3) = true)
    (a4 : PySem.W.nsIn K mainGlobals "due_order" = some (some (.ref f4))) (l4 : K.lookup f4 = some ⟨oc4, od4, .func (PySem.W.fnOf "due_order" "due_order" (defArgs s_due_order) (defBody s_due_order) (defScope s_due_order) .none kV4 dc4 pm4 an4 cd4 ct4), sl4⟩) (c4 : PySem.W.codeIn K cd4 "due_order" = true) (k4 : PySem.W.keepIn K (.ref f4) = true)
    (a5 : PySem.W.nsIn K mainGlobals "least_late" = some (some (.ref f5))) (l5 : K.lookup f5 = some ⟨oc5, od5, .func (PySem.W.fnOf "least_late" "least_late" (defArgs s_least_late) (defBody s_least_late) (defScope s_least_late) .none kV5 dc5 pm5 an5 cd5 ct5), sl5⟩) (c5 : PySem.W.codeIn K cd5 "least_late" = true) (k5 : PySem.W.keepIn K (.ref f5) = true)
    (a6 : PySem.W.findIn K (.ref Cc0) "__init__" = some (some (.ref f6))) (d6 : PySem.W.isFn K (.ref f6) = true) (l6 : K.lookup f6 = some ⟨oc6, od6, .func (PySem.W.fnOf "__init__" "Work.__init__" (defArgs s_Work___init__) (defBody s_Work___init__) (defScope s_Work___init__) .none kV6 dc6 pm6 an6 cd6 ct6), sl6⟩) (c6 : PySem.W.codeIn K cd6 "Work.__init__" = true) (k6 : PySem.W.keepIn K (.ref f6) = true)
    (a7 : PySem.W.findIn K (.ref Cc0) "who_works" = some (some (.ref f7))) (d7 : PySem.W.isFn K (.ref f7) = true) (l7 : K.lookup f7 = some ⟨oc7, od7, .func (PySem.W.fnOf "who_works" "Work.who_works" (defArgs s_Work_who_works) (defBody s_Work_who_works) (defScope s_Work_who_works) .none kV7 dc7 pm7 an7 cd7 ct7), sl7⟩) (c7 : PySem.W.codeIn K cd7 "Work.who_works" = true) (k7 : PySem.W.keepIn K (.ref f7) = true)
    (a8 : PySem.W.findIn K (.ref Cc0) "next_come" = some (some (.ref f8))) (d8 : PySem.W.isFn K (.ref f8) = true) (l8 : K.lookup f8 = some ⟨oc8, od8, .func (PySem.W.fnOf "next_come" "Work.next_come" (defArgs s_Work_next_come) (defBody s_Work_next_come) (defScope s_Work_next_come) .none kV8 dc8 pm8 an8 cd8 ct8), sl8⟩) (c8 : PySem.W.codeIn K cd8 "Work.next_come" = true) (k8 : PySem.W.keepIn K (.ref f8) = true)
    (a9 : PySem.W.findIn K (.ref Cc0) "go_on" = some (some (.ref f9))) (d9 : PySem.W.isFn K (.ref f9) = true) (l9 : K.lookup f9 = some ⟨oc9, od9, .func (PySem.W.fnOf "go_on" "Work.go_on" (defArgs s_Work_go_on) (defBody s_Work_go_on) (defScope s_Work_go_on) .none kV9 dc9 pm9 an9 cd9 ct9), sl9⟩) (c9 : PySem.W.codeIn K cd9 "Work.go_on" = true) (k9 : PySem.W.keepIn K (.ref f9) = true)
    (a10 : PySem.W.findIn K (.ref Cc0) "put" = some (some (.ref f10))) (d10 : PySem.W.isFn K (.ref f10) = true) (l10 : K.lookup f10 = some ⟨oc10, od10, .func (PySem.W.fnOf "put" "Work.put" (defArgs s_Work_put) (defBody s_Work_put) (defScope s_Work_put) .none kV10 dc10 pm10 an10 cd10 ct10), sl10⟩) (c10 : PySem.W.codeIn K cd10 "Work.put" = true) (k10 : PySem.W.keepIn K (.ref f10) = true)
    (a11 : PySem.W.nsIn K mainGlobals "crowd_to" = some (some (.ref f11))) (l11 : K.lookup f11 = some ⟨oc11, od11, .func (PySem.W.fnOf "crowd_to" "crowd_to" (defArgs s_crowd_to) (defBody s_crowd_to) (defScope s_crowd_to) .none kV11 dc11 pm11 an11 cd11 ct11), sl11⟩) (c11 : PySem.W.codeIn K cd11 "crowd_to" = true) (k11 : PySem.W.keepIn K (.ref f11) = true)
    (a12 : PySem.W.nsIn K mainGlobals "parted" = some (some (.ref f12))) (l12 : K.lookup f12 = some ⟨oc12, od12, .func (PySem.W.fnOf "parted" "parted" (defArgs s_parted) (defBody s_parted) (defScope s_parted) .none kV12 dc12 pm12 an12 cd12 ct12), sl12⟩) (c12 : PySem.W.codeIn K cd12 "parted" = true) (k12 : PySem.W.keepIn K (.ref f12) = true)
    (a13 : PySem.W.nsIn K mainGlobals "_law_mixed" = some (some (.ref f13))) (l13 : K.lookup f13 = some ⟨oc13, od13, .func (PySem.W.fnOf "_law_mixed" "_law_mixed" (defArgs s__law_mixed) (defBody s__law_mixed) (defScope s__law_mixed) .none kV13 dc13 pm13 an13 cd13 ct13), sl13⟩) (c13 : PySem.W.codeIn K cd13 "_law_mixed" = true) (k13 : PySem.W.keepIn K (.ref f13) = true)
    (a14 : PySem.W.nsIn K mainGlobals "_law_draw" = some (some (.ref f14))) (l14 : K.lookup f14 = some ⟨oc14, od14, .func (PySem.W.fnOf "_law_draw" "_law_draw" (defArgs s__law_draw) (defBody s__law_draw) (defScope s__law_draw) .none kV14 dc14 pm14 an14 cd14 ct14), sl14⟩) (c14 : PySem.W.codeIn K cd14 "_law_draw" = true) (k14 : PySem.W.keepIn K (.ref f14) = true)
    (a15 : PySem.W.nsIn K mainGlobals "_law_next" = some (some (.ref f15))) (l15 : K.lookup f15 = some ⟨oc15, od15, .func (PySem.W.fnOf "_law_next" "_law_next" (defArgs s__law_next) (defBody s__law_next) (defScope s__law_next) .none kV15 dc15 pm15 an15 cd15 ct15), sl15⟩) (c15 : PySem.W.codeIn K cd15 "_law_next" = true) (k15 : PySem.W.keepIn K (.ref f15) = true)
    (a16 : PySem.W.nsIn K mainGlobals "_law_work" = some (some (.ref f16))) (l16 : K.lookup f16 = some ⟨oc16, od16, .func (PySem.W.fnOf "_law_work" "_law_work" (defArgs s__law_work) (defBody s__law_work) (defScope s__law_work) .none kV16 dc16 pm16 an16 cd16 ct16), sl16⟩) (c16 : PySem.W.codeIn K cd16 "_law_work" = true) (k16 : PySem.W.keepIn K (.ref f16) = true)
    (a17 : PySem.W.nsIn K mainGlobals "_law_rows" = some (some (.ref f17))) (l17 : K.lookup f17 = some ⟨oc17, od17, .func (PySem.W.fnOf "_law_rows" "_law_rows" (defArgs s__law_rows) (defBody s__law_rows) (defScope s__law_rows) .none kV17 dc17 pm17 an17 cd17 ct17), sl17⟩) (c17 : PySem.W.codeIn K cd17 "_law_rows" = true) (k17 : PySem.W.keepIn K (.ref f17) = true)
    (a18 : PySem.W.nsIn K mainGlobals "_law_order" = some (some (.ref f18))) (l18 : K.lookup f18 = some ⟨oc18, od18, .func (PySem.W.fnOf "_law_order" "_law_order" (defArgs s__law_order) (defBody s__law_order) (defScope s__law_order) .none kV18 dc18 pm18 an18 cd18 ct18), sl18⟩) (c18 : PySem.W.codeIn K cd18 "_law_order" = true) (k18 : PySem.W.keepIn K (.ref f18) = true)
    (a19 : PySem.W.nsIn K mainGlobals "_law_pieces_right" = some (some (.ref f19))) (l19 : K.lookup f19 = some ⟨oc19, od19, .func (PySem.W.fnOf "_law_pieces_right" "_law_pieces_right" (defArgs s__law_pieces_right) (defBody s__law_pieces_right) (defScope s__law_pieces_right) .none kV19 dc19 pm19 an19 cd19 ct19), sl19⟩) (c19 : PySem.W.codeIn K cd19 "_law_pieces_right" = true) (k19 : PySem.W.keepIn K (.ref f19) = true)
    (a20 : PySem.W.nsIn K mainGlobals "_law_later" = some (some (.ref f20))) (l20 : K.lookup f20 = some ⟨oc20, od20, .func (PySem.W.fnOf "_law_later" "_law_later" (defArgs s__law_later) (defBody s__law_later) (defScope s__law_later) .none kV20 dc20 pm20 an20 cd20 ct20), sl20⟩) (c20 : PySem.W.codeIn K cd20 "_law_later" = true) (k20 : PySem.W.keepIn K (.ref f20) = true)
    (a21 : PySem.W.nsIn K mainGlobals "law" = some (some (.ref f21))) (l21 : K.lookup f21 = some ⟨oc21, od21, .func (PySem.W.fnOf "law" "law" (defArgs s_law) (defBody s_law) (defScope s_law) .none kV21 dc21 pm21 an21 cd21 ct21), sl21⟩) (c21 : PySem.W.codeIn K cd21 "law" = true) (k21 : PySem.W.keepIn K (.ref f21) = true)
    (z0 : PySem.W.nsIn K mainGlobals "len" = some none)
    (z1 : PySem.W.nsIn K mainGlobals "max" = some none)
    (z2 : PySem.W.nsIn K mainGlobals "min" = some none)
    (z3 : PySem.W.nsIn K mainGlobals "sum" = some none)
    (z4 : PySem.W.nsIn K mainGlobals "all" = some none)
    (z5 : PySem.W.nsIn K mainGlobals "any" = some none)
    (z6 : PySem.W.nsIn K mainGlobals "list" = some none)
    (z7 : PySem.W.nsIn K mainGlobals "tuple" = some none)
    (z8 : PySem.W.nsIn K mainGlobals "int" = some none)
    (z9 : PySem.W.nsIn K mainGlobals "isinstance" = some none)
    (z10 : PySem.W.nsIn K mainGlobals "range" = some none)
    (z11 : PySem.W.nsIn K mainGlobals "enumerate" = some none)
    (z12 : PySem.W.nsIn K mainGlobals "zip" = some none)
    (z13 : PySem.W.nsIn K mainGlobals "set" = some none)
    (z14 : PySem.W.nsIn K mainGlobals "bool" = some none)
    (z15 : PySem.W.nsIn K mainGlobals "str" = some none)
    (z16 : PySem.W.nsIn K mainGlobals "dict" = some none)
    (z17 : PySem.W.nsIn K mainGlobals "sorted" = some none)
    (z18 : PySem.W.nsIn K mainGlobals "repr" = some none)
    (z19 : PySem.W.nsIn K mainGlobals "reversed" = some none)
    {tk0 : Tok} (q0 : PySem.W.nsIn K mainGlobals "MOST_TASKS" = some (some (.int 30 tk0)))
    {tk1 : Tok} (q1 : PySem.W.nsIn K mainGlobals "MOST_LENGTH" = some (some (.int 1000 tk1)))
    {tk2 : Tok} (q2 : PySem.W.nsIn K mainGlobals "MOST_HOUR" = some (some (.int 1000000 tk2)))
    {tk3 : Tok} (q3 : PySem.W.nsIn K mainGlobals "MOST_WEIGHT" = some (some (.int 1000 tk3)))
    : ∃ fd : FuncData, (∀ (s : Shared) (u : Value), BindsTo s fd ⟨[u], []⟩ [("_law_script", u)]) ∧ ∀ base : Heap, K.In base → base.Ns mainGlobals mg → FnOk P w K mg base (L2.CX P w) 6 fa fd ["_law_script"] (spL K) := by
  have e := hfa.symm.trans (PySem.W.mg_of X G a21)
  cases e
  have T : Txt K mg := ⟨fun n hn => by
    simp only [blts, List.mem_cons, List.not_mem_nil, or_false] at hn
    rcases hn with rfl | rfl | rfl | rfl | rfl | rfl | rfl | rfl | rfl | rfl | rfl | rfl | rfl | rfl | rfl | rfl | rfl | rfl | rfl | rfl
    · exact PySem.W.mg_none_of X G z0
    · exact PySem.W.mg_none_of X G z1
    · exact PySem.W.mg_none_of X G z2
    · exact PySem.W.mg_none_of X G z3
    · exact PySem.W.mg_none_of X G z4
    · exact PySem.W.mg_none_of X G z5
    · exact PySem.W.mg_none_of X G z6
    · exact PySem.W.mg_none_of X G z7
    · exact PySem.W.mg_none_of X G z8
    · exact PySem.W.mg_none_of X G z9
    · exact PySem.W.mg_none_of X G z10
    · exact PySem.W.mg_none_of X G z11
    · exact PySem.W.mg_none_of X G z12
    · exact PySem.W.mg_none_of X G z13
    · exact PySem.W.mg_none_of X G z14
    · exact PySem.W.mg_none_of X G z15
    · exact PySem.W.mg_none_of X G z16
    · exact PySem.W.mg_none_of X G z17
    · exact PySem.W.mg_none_of X G z18
    · exact PySem.W.mg_none_of X G z19, fun p hp => by
    simp only [cs, List.mem_cons, List.not_mem_nil, or_false] at hp
    rcases hp with rfl | rfl | rfl | rfl
    · exact ⟨_, .int 30, PySem.W.mg_of X G q0, ⟨_, rfl⟩, fun _ _ => rfl⟩
    · exact ⟨_, .int 1000, PySem.W.mg_of X G q1, ⟨_, rfl⟩, fun _ _ => rfl⟩
    · exact ⟨_, .int 1000000, PySem.W.mg_of X G q2, ⟨_, rfl⟩, fun _ _ => rfl⟩
    · exact ⟨_, .int 1000, PySem.W.mg_of X G q3, ⟨_, rfl⟩, fun _ _ => rfl⟩⟩
  have F0 := fun_mk (st := s_is_whole) l0 c0 k0
  have b0 := F0.binds (ps := ["thing"]) fun _ _ _ _ _ _ us hl => match us, hl with | [_], _ => rfl
  have F1 := fun_mk (st := s_is_among) l1 c1 k1
  have b1 := F1.binds (ps := ["thing", "least", "most"]) fun _ _ _ _ _ _ us hl => match us, hl with | [_, _, _], _ => rfl
  have F2 := fun_mk (st := s_is_work) l2 c2 k2
  have b2 := F2.binds (ps := ["thing"]) fun _ _ _ _ _ _ us hl => match us, hl with | [_], _ => rfl
  have F3 := fun_mk (st := s_need_rows) l3 c3 k3
  have b3 := F3.binds (ps := ["rows"]) fun _ _ _ _ _ _ us hl => match us, hl with | [_], _ => rfl
  have F4 := fun_mk (st := s_due_order) l4 c4 k4
  have b4 := F4.binds (ps := ["rows"]) fun _ _ _ _ _ _ us hl => match us, hl with | [_], _ => rfl
  have F5 := fun_mk (st := s_least_late) l5 c5 k5
  have b5 := F5.binds (ps := ["rows"]) fun _ _ _ _ _ _ us hl => match us, hl with | [_], _ => rfl
  have F6 := fun_mk (st := s_Work___init__) l6 c6 k6
  have b6 := F6.binds (ps := ["self", "rows"]) fun _ _ _ _ _ _ us hl => match us, hl with | [_, _], _ => rfl
  have F7 := fun_mk (st := s_Work_who_works) l7 c7 k7
  have b7 := F7.binds (ps := ["self"]) fun _ _ _ _ _ _ us hl => match us, hl with | [_], _ => rfl
  have F8 := fun_mk (st := s_Work_next_come) l8 c8 k8
  have b8 := F8.binds (ps := ["self"]) fun _ _ _ _ _ _ us hl => match us, hl with | [_], _ => rfl
  have F9 := fun_mk (st := s_Work_go_on) l9 c9 k9
  have b9 := F9.binds (ps := ["self"]) fun _ _ _ _ _ _ us hl => match us, hl with | [_], _ => rfl
  have F10 := fun_mk (st := s_Work_put) l10 c10 k10
  have b10 := F10.binds (ps := ["self", "number", "behind"]) fun _ _ _ _ _ _ us hl => match us, hl with | [_, _, _], _ => rfl
  have F11 := fun_mk (st := s_crowd_to) l11 c11 k11
  have b11 := F11.binds (ps := ["rows", "pieces", "last", "end"]) fun _ _ _ _ _ _ us hl => match us, hl with | [_, _, _, _], _ => rfl
  have F12 := fun_mk (st := s_parted) l12 c12 k12
  have b12 := F12.binds (ps := ["rows"]) fun _ _ _ _ _ _ us hl => match us, hl with | [_], _ => rfl
  have F13 := fun_mk (st := s__law_mixed) l13 c13 k13
  have b13 := F13.binds (ps := ["_law_cell", "_law_k"]) fun _ _ _ _ _ _ us hl => match us, hl with | [_, _], _ => rfl
  have F14 := fun_mk (st := s__law_draw) l14 c14 k14
  have b14 := F14.binds (ps := ["_law_script", "_law_k"]) fun _ _ _ _ _ _ us hl => match us, hl with | [_, _], _ => rfl
  have F15 := fun_mk (st := s__law_next) l15 c15 k15
  have b15 := F15.binds (ps := ["_law_draw_here", "_law_many"]) fun _ _ _ _ _ _ us hl => match us, hl with | [_, _], _ => rfl
  have F16 := fun_mk (st := s__law_work) l16 c16 k16
  have b16 := F16.binds (ps := ["_law_draw_here"]) fun _ _ _ _ _ _ us hl => match us, hl with | [_], _ => rfl
  have F17 := fun_mk (st := s__law_rows) l17 c17 k17
  have b17 := F17.binds (ps := ["_law_script", "_law_k", "_law_most"]) fun _ _ _ _ _ _ us hl => match us, hl with | [_, _, _], _ => rfl
  have F18 := fun_mk (st := s__law_order) l18 c18 k18
  have b18 := F18.binds (ps := ["_law_draw_here", "_law_many"]) fun _ _ _ _ _ _ us hl => match us, hl with | [_, _], _ => rfl
  have F19 := fun_mk (st := s__law_pieces_right) l19 c19 k19
  have b19 := F19.binds (ps := ["_law_rows_here", "_law_pieces"]) fun _ _ _ _ _ _ us hl => match us, hl with | [_, _], _ => rfl
  have F20 := fun_mk (st := s__law_later) l20 c20 k20
  have b20 := F20.binds (ps := ["_law_rows_here", "_law_order_here"]) fun _ _ _ _ _ _ us hl => match us, hl with | [_, _], _ => rfl
  have F21 := fun_mk (st := s_law) l21 c21 k21
  refine ⟨PySem.W.fnOf "law" "law" (defArgs s_law) (defBody s_law) (defScope s_law) .none kV21 dc21 pm21 an21 cd21 ct21, fun s u => .of_eq rfl, fun base _ _ => ?_⟩
  have g0 : FnR P w K mg base 1 "is_whole" sp_is_whole := fn_is_whole T F0 (PySem.W.mg_of X G a0) k0 b0
  have g4 : FnR P w K mg base 1 "due_order" sp_due_order := fn_due_order T F4 (PySem.W.mg_of X G a4) k4 b4
  have g6 : NwR P w K mg base 2 "Work" sp_Work___init__ := ⟨Cc0, f6, _, ["self", "rows"], 1, _, [], [], PySem.W.mg_of X G ua0, ⟨um0, a6, d6, uk0⟩, fn_Work___init__ T F6 ⟨Cc0, PySem.W.mg_of X G ua0, ub0, fun f hf => by
    simp only [List.mem_cons, List.not_mem_nil, or_false] at hf
    rcases hf with rfl | rfl | rfl | rfl | rfl
    · exact uf0_0
    · exact uf0_1
    · exact uf0_2
    · exact uf0_3
    · exact uf0_4⟩, Nat.le_refl _, b6, .nil, fun vs H Q E h => by rw [List.append_nil]; exact h⟩
  have g7 : MeR P w K mg base 1 "Work" "who_works" sp_Work_who_works := ⟨Cc0, f7, _, ["self"], 1, _, [], [], PySem.W.mg_of X G ua0, ub0, ⟨a7, d7, k7⟩, fn_Work_who_works T F7 ⟨Cc0, PySem.W.mg_of X G ua0, ub0, fun f hf => by
    simp only [List.mem_cons, List.not_mem_nil, or_false] at hf
    rcases hf with rfl | rfl | rfl | rfl | rfl
    · exact uf0_0
    · exact uf0_1
    · exact uf0_2
    · exact uf0_3
    · exact uf0_4⟩, Nat.le_refl _, b7, .nil, fun vs H Q E h => by rw [List.append_nil]; exact h⟩
  have g8 : MeR P w K mg base 1 "Work" "next_come" sp_Work_next_come := ⟨Cc0, f8, _, ["self"], 1, _, [], [], PySem.W.mg_of X G ua0, ub0, ⟨a8, d8, k8⟩, fn_Work_next_come T F8 ⟨Cc0, PySem.W.mg_of X G ua0, ub0, fun f hf => by
    simp only [List.mem_cons, List.not_mem_nil, or_false] at hf
    rcases hf with rfl | rfl | rfl | rfl | rfl
    · exact uf0_0
    · exact uf0_1
    · exact uf0_2
    · exact uf0_3
    · exact uf0_4⟩, Nat.le_refl _, b8, .nil, fun vs H Q E h => by rw [List.append_nil]; exact h⟩
  have g10 : MeR P w K mg base 1 "Work" "put" sp_Work_put := ⟨Cc0, f10, _, ["self", "number", "behind"], 1, _, [], [], PySem.W.mg_of X G ua0, ub0, ⟨a10, d10, k10⟩, fn_Work_put T F10 ⟨Cc0, PySem.W.mg_of X G ua0, ub0, fun f hf => by
    simp only [List.mem_cons, List.not_mem_nil, or_false] at hf
    rcases hf with rfl | rfl | rfl | rfl | rfl
    · exact uf0_0
    · exact uf0_1
    · exact uf0_2
    · exact uf0_3
    · exact uf0_4⟩, Nat.le_refl _, b10, .nil, fun vs H Q E h => by rw [List.append_nil]; exact h⟩
  have g11 : FnR P w K mg base 1 "crowd_to" sp_crowd_to := fn_crowd_to T F11 (PySem.W.mg_of X G a11) k11 b11
  have g13 : FnR P w K mg base 1 "_law_mixed" sp__law_mixed := fn__law_mixed T F13 (PySem.W.mg_of X G a13) k13 b13
  have g14 : FnR P w K mg base 1 "_law_draw" sp__law_draw := fn__law_draw T F14 (PySem.W.mg_of X G a14) k14 b14
  have g19 : FnR P w K mg base 1 "_law_pieces_right" sp__law_pieces_right := fn__law_pieces_right T F19 (PySem.W.mg_of X G a19) k19 b19
  have g20 : FnR P w K mg base 1 "_law_later" sp__law_later := fn__law_later T F20 (PySem.W.mg_of X G a20) k20 b20
  have g1 : FnR P w K mg base 2 "is_among" sp_is_among := fn_is_among T F1 (PySem.W.mg_of X G a1) k1 b1 (g0.mono (by decide))
  have g9 : MeR P w K mg base 2 "Work" "go_on" sp_Work_go_on := ⟨Cc0, f9, _, ["self"], 2, _, [], [], PySem.W.mg_of X G ua0, ub0, ⟨a9, d9, k9⟩, fn_Work_go_on T F9 (meR_mono g7 (by decide)) (meR_mono g8 (by decide)) ⟨Cc0, PySem.W.mg_of X G ua0, ub0, fun f hf => by
    simp only [List.mem_cons, List.not_mem_nil, or_false] at hf
    rcases hf with rfl | rfl | rfl | rfl | rfl
    · exact uf0_0
    · exact uf0_1
    · exact uf0_2
    · exact uf0_3
    · exact uf0_4⟩ (meR_mono g10 (by decide)), Nat.le_refl _, b9, .nil, fun vs H Q E h => by rw [List.append_nil]; exact h⟩
  have g15 : FnR P w K mg base 2 "_law_next" sp__law_next := fn__law_next T F15 (PySem.W.mg_of X G a15) k15 b15 (g13.mono (by decide))
  have g2 : FnR P w K mg base 3 "is_work" sp_is_work := fn_is_work T F2 (PySem.W.mg_of X G a2) k2 b2 (g1.mono (by decide))
  have g16 : FnR P w K mg base 3 "_law_work" sp__law_work := fn__law_work T F16 (PySem.W.mg_of X G a16) k16 b16 (g15.mono (by decide))
  have g18 : FnR P w K mg base 3 "_law_order" sp__law_order := fn__law_order T F18 (PySem.W.mg_of X G a18) k18 b18 (g15.mono (by decide))
  have g3 : FnR P w K mg base 4 "need_rows" sp_need_rows := fn_need_rows T F3 (PySem.W.mg_of X G a3) k3 b3 (g2.mono (by decide))
  have g17 : FnR P w K mg base 4 "_law_rows" sp__law_rows := fn__law_rows T F17 (PySem.W.mg_of X G a17) k17 b17 (g14.mono (by decide)) (g15.mono (by decide)) (g16.mono (by decide))
  have g5 : FnR P w K mg base 5 "least_late" sp_least_late := fn_least_late T F5 (PySem.W.mg_of X G a5) k5 b5 (g3.mono (by decide)) (g4.mono (by decide))
  have g12 : FnR P w K mg base 5 "parted" sp_parted := fn_parted T F12 (PySem.W.mg_of X G a12) k12 b12 (g3.mono (by decide)) (nwR_mono g6 (by decide)) ⟨Cc0, PySem.W.mg_of X G ua0, ub0, fun f hf => by
    simp only [List.mem_cons, List.not_mem_nil, or_false] at hf
    rcases hf with rfl | rfl | rfl | rfl | rfl
    · exact uf0_0
    · exact uf0_1
    · exact uf0_2
    · exact uf0_3
    · exact uf0_4⟩ (meR_mono g9 (by decide)) (g11.mono (by decide))
  exact fn_spL (ok_law T F21 (g17.mono (by decide)) (g12.mono (by decide)) (g19.mono (by decide)) (g14.mono (by decide)) (g20.mono (by decide)) (g18.mono (by decide)) (g15.mono (by decide)) (g5.mono (by decide)))
end Law
open PySem PySem.W PyProof.Rows
set_option maxRecDepth 100000 in
set_option maxHeartbeats 0 in
theorem PySem.Challenge.cw_boundsmith_k34_whole_parted_shown_holds : PySem.Challenge.rw_boundsmith_k34_whole_parted_shown.Holds := by
  w_on; o_law; k_head; (case hw => w_witness2)
  k_fill
  refine L2.walk_of (n := 63) (k := 6) (x := "_law_script") (CX := fun w => L2.CX PySem.Challenge.pw_boundsmith_k34_whole_parted_shown w) (sp := fun w => Z.spL _) rfl (by decide) rfl ⟨rfl, by decide, by decide⟩ (fun w h Y => PySem.W.kIn_of Y) ?F (fun w H a ns hl ho hs => Z.law_spL hl ho hs) (fun w H s e s1 z => Z.no_exc z)
  case F =>
    intro w mg fa h KX G hmg
    refine' Law.all_mk KX G hmg ?ua0 ?ub0 ?uf0_0 ?uf0_1 ?uf0_2 ?uf0_3 ?uf0_4 ?um0 ?uk0 ?a0 ?l0 ?c0 ?k0 ?a1 ?l1 ?c1 ?k1 ?a2 ?l2 ?c2 ?k2 ?a3 ?l3 ?c3 ?k3 ?a4 ?l4 ?c4 ?k4 ?a5 ?l5 ?c5 ?k5 ?a6 ?d6 ?l6 ?c6 ?k6 ?a7 ?d7 ?l7 ?c7 ?k7 ?a8 ?d8 ?l8 ?c8 ?k8 ?a9 ?d9 ?l9 ?c9 ?k9 ?a10 ?d10 ?l10 ?c10 ?k10 ?a11 ?l11 ?c11 ?k11 ?a12 ?l12 ?c12 ?k12 ?a13 ?l13 ?c13 ?k13 ?a14 ?l14 ?c14 ?k14 ?a15 ?l15 ?c15 ?k15 ?a16 ?l16 ?c16 ?k16 ?a17 ?l17 ?c17 ?k17 ?a18 ?l18 ?c18 ?k18 ?a19 ?l19 ?c19 ?k19 ?a20 ?l20 ?c20 ?k20 ?a21 ?l21 ?c21 ?k21 ?z0 ?z1 ?z2 ?z3 ?z4 ?z5 ?z6 ?z7 ?z8 ?z9 ?z10 ?z11 ?z12 ?z13 ?z14 ?z15 ?z16 ?z17 ?z18 ?z19 ?q0 ?q1 ?q2 ?q3
    (case ua0 => k_is); (case ub0 => exact ⟨by k_is, by k_is, by k_is, by k_is⟩); (case uf0_0 => k_is); (case uf0_1 => k_is); (case uf0_2 => k_is); (case uf0_3 => k_is); (case uf0_4 => k_is); (case um0 => k_is)
    (case uk0 => k_is); (case a0 => k_is); (case l0 => k_is); (case c0 => k_is); (case k0 => k_is); (case a1 => k_is); (case l1 => k_is); (case c1 => k_is)
    (case k1 => k_is); (case a2 => k_is); (case l2 => k_is); (case c2 => k_is); (case k2 => k_is); (case a3 => k_is); (case l3 => k_is); (case c3 => k_is)
    (case k3 => k_is); (case a4 => k_is); (case l4 => k_is); (case c4 => k_is); (case k4 => k_is); (case a5 => k_is); (case l5 => k_is); (case c5 => k_is)
    (case k5 => k_is); (case a6 => k_is); (case d6 => k_is); (case l6 => k_is); (case c6 => k_is); (case k6 => k_is); (case a7 => k_is); (case d7 => k_is)
    (case l7 => k_is); (case c7 => k_is); (case k7 => k_is); (case a8 => k_is); (case d8 => k_is); (case l8 => k_is); (case c8 => k_is); (case k8 => k_is)
    (case a9 => k_is); (case d9 => k_is); (case l9 => k_is); (case c9 => k_is); (case k9 => k_is); (case a10 => k_is); (case d10 => k_is); (case l10 => k_is)
    (case c10 => k_is); (case k10 => k_is); (case a11 => k_is); (case l11 => k_is); (case c11 => k_is); (case k11 => k_is); (case a12 => k_is); (case l12 => k_is)
    (case c12 => k_is); (case k12 => k_is); (case a13 => k_is); (case l13 => k_is); (case c13 => k_is); (case k13 => k_is); (case a14 => k_is); (case l14 => k_is)
    (case c14 => k_is); (case k14 => k_is); (case a15 => k_is); (case l15 => k_is); (case c15 => k_is); (case k15 => k_is); (case a16 => k_is); (case l16 => k_is)
    (case c16 => k_is); (case k16 => k_is); (case a17 => k_is); (case l17 => k_is); (case c17 => k_is); (case k17 => k_is); (case a18 => k_is); (case l18 => k_is)
    (case c18 => k_is); (case k18 => k_is); (case a19 => k_is); (case l19 => k_is); (case c19 => k_is); (case k19 => k_is); (case a20 => k_is); (case l20 => k_is)
    (case c20 => k_is); (case k20 => k_is); (case a21 => k_is); (case l21 => k_is); (case c21 => k_is); (case k21 => k_is); (case z0 => k_is); (case z1 => k_is)
    (case z2 => k_is); (case z3 => k_is); (case z4 => k_is); (case z5 => k_is); (case z6 => k_is); (case z7 => k_is); (case z8 => k_is); (case z9 => k_is)
    (case z10 => k_is); (case z11 => k_is); (case z12 => k_is); (case z13 => k_is); (case z14 => k_is); (case z15 => k_is); (case z16 => k_is); (case z17 => k_is)
    (case z18 => k_is); (case z19 => k_is); (case q0 => k_is); (case q1 => k_is); (case q2 => k_is); (case q3 => k_is)
#print axioms PySem.Challenge.cw_boundsmith_k34_whole_parted_shown_holds
