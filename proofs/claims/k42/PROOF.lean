import PyProof.Rows.All
import Wide.All
import OpenK.AllK
import Wide.FinOn
import HandS.ForMost
import HandS.ForExc
import KE.SortData
import KE.DataMinMax
import HandS.TupSets
import HandS.SortKw
import HandS.Strs
import KE.OsSetLaws
import HandS.SetKeys
import HandS.Conv
import KE.KDictPairs
import HandS.Zip
import KE.GoesZip
import KE.GoesMore
import KE.GoesEnum
import HandS.ExcInit
import PyProof.ReprRoads
import PyProof.ReprBulk
import HandS.Ends
import HandS.CallSlots
import HandS.TupAny
import HandS.Style
import HandS.List
import HandS.ExcIs
import HandS.Deep
import KE.KDictZip
import PyProof.EqKinds
import PyProof.NeKinds
import HandS.TupMul
import PyProof.CollectStr
import PyProof.TupleOfSeq
import HandS.DictTup
import KE.KDictWalk
import KE.KDictItemsList
import KE.KDictCopyH
import KE.KDictDisplayH
import KE.KNestM
import HandS.Lambda
import HandS.EndTab
import KE.SortKeyHeap
import HandS.Call
import OpenK.KCall
import HandS.Rev
import HandS.RevTup
import HandS.GenList
import HandS.Text
import HandS.BoundDict
import HandS.RaiseMore
import KE.GoesEnumKw
import KE.KDictLaws
import HandS.Wide
import HandS.IsInst
import HandS.Flow
import HandS.Flt
import HandS.Replace
import HandS.ExcField
import HandS.Defaults
import PySem.Challenge.RW_boundsmith_k42_rows_and_sets_refused
set_option Elab.async false
set_option linter.all false
set_option maxRecDepth 100000
set_option autoImplicit false
/-! Zdef: a small language that mirrors the program's Python, its values with tuples as plain data, and what must hold ahead of a piece of it (weakest preconditions), as plain Lean. -/
namespace Z
open PySem

/-! ### values -/
inductive PV where
  | non | bl (b : Bool) | int (i : Int) | str (s : Str) | tup (xs : List PV) | ref (i : Nat) | ils (xs : List PV) | itp (xs : List PV) | exc (c : Str) (ns : List Str) (vs : List PV) | fnv (f c : Nat) (q : Str) (xs : List PV) (vs : List L2.V) | lam (ds : List (PySem.Expr × PySem.Scope)) (k : Nat) (q : Str) (cl : List (Str × PySem.Addr))

abbrev At := Sum Int Str
inductive Ky where
  | one (k : At) | many (ks : List At)
  deriving DecidableEq

/-- what lies at a place of the heap -/
inductive Ob where
  | lst (xs : List PV) | dic (kvs : List (Ky × PV)) | ins (c : Str) (fs : List (Str × PV)) | ldc (u : L2.HO) (kvs : List (Ky × PV)) | tab (P : Nat) (q : Str)

abbrev Hep := List Ob
abbrev Env := List (Option PV)
structure XV where
  cls : Str
  fs : List (Str × PV)
abbrev KQ := PV → Hep → Prop
abbrev KX := XV → Hep → Prop
abbrev KB := Bool → Hep → Prop
abbrev Spec := List PV → Hep → KQ → KX → Prop
abbrev noX : KX := fun _ _ => False

def big : Nat := 16777216

/-! ### keys, dicts -/
def keyAtom : PV → Option At
  | .int i => some (.inl i)
  | .str s => some (.inr s)
  | _ => none
def keyAtoms : List PV → Option (List At)
  | [] => some []
  | x :: xs => match keyAtom x, keyAtoms xs with
    | some k, some ks => some (k :: ks)
    | _, _ => none
def keyOf : PV → Option Ky
  | .tup xs => (keyAtoms xs).map Ky.many
  | .int i => some (.one (.inl i))
  | .str s => some (.one (.inr s))
  | _ => none
def atomV : At → PV
  | .inl i => .int i
  | .inr s => .str s
def keyV : Ky → PV
  | .one k => atomV k
  | .many ks => .tup (ks.map atomV)
def dget (k : Ky) : List (Ky × PV) → Option PV
  | [] => none
  | (j, v) :: r => if j = k then some v else dget k r
/-- in its place, or at the end -/
def dput (k : Ky) (v : PV) (kvs : List (Ky × PV)) : List (Ky × PV) :=
  if (dget k kvs).isSome = true then kvs.map (fun p => if p.1 = k then (p.1, v) else p) else kvs ++ [(k, v)]
def ddel (k : Ky) (kvs : List (Ky × PV)) : List (Ky × PV) := kvs.filter fun p => decide (p.1 ≠ k)
def sameKind : Ky → Ky → Bool
  | .one _, .one _ => true
  | .many _, .many _ => true
  | _, _ => false
/-- a dict holds keys of one kind -/
def kindOk (k : Ky) : List (Ky × PV) → Bool
  | [] => true
  | (j, _) :: _ => sameKind j k

/-! ### reading the heap -/
def getL (h : Hep) (r : Nat) (F : List PV → Prop) : Prop := match h[r]? with | some (.lst xs) => F xs | _ => False
def getD (h : Hep) (r : Nat) (F : List (Ky × PV) → Prop) : Prop := match h[r]? with | some (.dic xs) => F xs | _ => False
def getO (h : Hep) (r : Nat) (F : Str → List (Str × PV) → Prop) : Prop := match h[r]? with | some (.ins c fs) => F c fs | _ => False
/-- a list that may be read -/
def listW (h : Hep) (x : PV) (F : List PV → Prop) : Prop := match x with
  | .ref r => getL h r F
  | .ils xs => F xs
  | _ => False
/-- a list or a tuple -/
def seqW (h : Hep) (x : PV) (F : List PV → Prop) : Prop := match x with
  | .ref r => getL h r F
  | .ils xs => F xs
  | .tup xs => F xs
  | .itp xs => F xs
  | _ => False
def intsOf : List PV → Option (List Int)
  | [] => some []
  | .int i :: r => (intsOf r).map (i :: ·)
  | _ :: _ => none
def boolsOf : List PV → Option (List Bool)
  | [] => some []
  | .bl i :: r => (boolsOf r).map (i :: ·)
  | _ :: _ => none
def strsOf : List PV → Option (List Str)
  | [] => some []
  | .str i :: r => (strsOf r).map (i :: ·)
  | _ :: _ => none

/-! ### data, for == -/
def datAll (f : PV → Option PyData) : List PV → Option (List PyData)
  | [] => some []
  | x :: xs => match f x, datAll f xs with
    | some d, some ds => some (d :: ds)
    | _, _ => none
def dat (h : Hep) : Nat → PV → Option PyData
  | _, .non => some .none
  | _, .bl b => some (.bool b)
  | _, .int i => some (.int i)
  | _, .str s => some (.str s)
  | _, .exc _ _ _ => none
  | _, .fnv _ _ _ _ _ => none
  | _, .lam _ _ _ _ => none
  | 0, _ => none
  | n + 1, .tup xs => (datAll (dat h n) xs).map .tuple
  | n + 1, .itp xs => (datAll (dat h n) xs).map .tuple
  | n + 1, .ils xs => (datAll (dat h n) xs).map .list
  | n + 1, .ref r => match h[r]? with | some (.lst xs) => (datAll (dat h n) xs).map .list | _ => none
def kyD : Ky → Option PyData
  | .one (.inl i) => some (.int i)
  | .one (.inr s) => some (.str s)
  | .many _ => none
def datK (f : PV → Option PyData) : List (Ky × PV) → Option (List (PyData × PyData))
  | [] => some []
  | (k, x) :: r => match kyD k, f x, datK f r with
    | some a, some b, some l => some ((a, b) :: l)
    | _, _, _ => none
/-- data, dicts among it, for repr -/
def datR (h : Hep) : Nat → PV → Option PyData
  | _, .non => some .none
  | _, .bl b => some (.bool b)
  | _, .int i => some (.int i)
  | _, .str s => some (.str s)
  | _, .exc _ _ _ => none
  | _, .fnv _ _ _ _ _ => none
  | _, .lam _ _ _ _ => none
  | 0, _ => none
  | n + 1, .tup xs => (datAll (datR h n) xs).map .tuple
  | n + 1, .itp xs => (datAll (datR h n) xs).map .tuple
  | n + 1, .ils xs => (datAll (datR h n) xs).map .list
  | n + 1, .ref r => match h[r]? with
    | some (.lst xs) => (datAll (datR h n) xs).map .list
    | some (.dic kvs) => (datK (datR h n) kvs).map .dict
    | _ => none
/-- == where the items are not looked at: things of two kinds, or nothing in one of them -/
def oddE (h : Hep) (x y : PV) (b : Bool) : Prop :=
  (∃ xs s, x = .itp xs ∧ y = .str s ∧ b = false) ∨
  (∃ r s, x = .ref r ∧ y = .str s ∧ ((∃ xs, h[r]? = some (.lst xs)) ∨ ∃ kvs, h[r]? = some (.dic kvs)) ∧ b = false) ∨
  (∃ xs, x = .itp xs ∧ y = .itp [] ∧ b = xs.isEmpty) ∨
  (∃ r q xs, x = .ref r ∧ y = .ref q ∧ h[r]? = some (.lst xs) ∧ h[q]? = some (.lst []) ∧ b = xs.isEmpty) ∨
  ∃ r q, x = .ref r ∧ y = .ref q ∧ h[r]? = some (.dic []) ∧ h[q]? = some (.dic []) ∧ b = true
/-- == of two dicts of one pair, with the same tuple as a key -/
def oneE (h : Hep) (x y : PV) (b : Bool) : Prop := ∃ r q ks i j, x = .ref r ∧ y = .ref q ∧ h[r]? = some (.dic [(.many ks, .int i)]) ∧ h[q]? = some (.dic [(.many ks, .int j)]) ∧ b = decide (i = j)
/-- x == y is K's argument -/
def eqW (h : Hep) (x y : PV) (K : Bool → Prop) : Prop :=
  (∃ d e, dat h 60 x = some d ∧ dat h 60 y = some e ∧ SeqAt.shaped d = true ∧ SeqAt.shaped e = true ∧ K (PyData.eqv d e)) ∨ (∃ s t, x = .str s ∧ y = .str t ∧ K (s == t)) ∨ ∃ b, (oddE h x y b ∨ oneE h x y b) ∧ K b

/-! ### truth -/
def truW (h : Hep) (x : PV) (K : Bool → Prop) : Prop := match x with
  | .non => K false
  | .bl b => K b
  | .int i => K (i != 0)
  | .str s => s.length ≤ big ∧ K ((s.length : Int) != 0)
  | .tup xs => K (!xs.isEmpty)
  | .ils xs => K (!xs.isEmpty)
  | .itp xs => K (!xs.isEmpty)
  | .ref r => getL h r fun xs => K (!xs.isEmpty)
  | .exc _ _ _ => False
  | .fnv _ _ _ _ _ => False
  | .lam _ _ _ _ => False

/-! ### operators -/
def mulOk (i j : Int) : Prop := (-(2 ^ 64) < i ∧ i < 2 ^ 64) ∨ (-(2 ^ 64) < j ∧ j < 2 ^ 64) ∨ i.natAbs.log2 + j.natAbs.log2 < 1000000
def divOk (j : Int) : Prop := 0 < j ∧ j.natAbs.log2 < 9000
def powOk (i j : Int) : Prop := 0 ≤ j ∧ j ≤ 1000000 ∧ i.natAbs < 2 ^ 64
def binI (o : Operator) (i j : Int) (F : Int → Prop) : Prop := match o with
  | .Add => F (i + j)
  | .Sub => F (i - j)
  | .Mult => mulOk i j ∧ F (i * j)
  | .FloorDiv => divOk j ∧ F (i / j)
  | .Mod => 0 < j ∧ F (i % j)
  | .Pow => powOk i j ∧ F (i ^ j.toNat)
  | .LShift => powOk i j ∧ F (i * 2 ^ j.toNat)
  | .RShift => 0 ≤ j ∧ F (i / 2 ^ j.toNat)
  | .BitAnd => F (Builtin.bitAnd i j)
  | _ => False
/-- a text some times -/
def strRep (s : Str) (n : Nat) : Str := ⟨(List.replicate n s.cps.toList).flatten.toArray⟩
/-- the signs of a text -/
def signsOf (s : Str) : List PV := s.cps.toList.map fun c => .str ⟨#[c]⟩
def binW (o : Operator) (x y : PV) (h : Hep) (F : KQ) : Prop := match x, y with
  | .int i, .int j => binI o i j fun k => F (.int k) h
  | .str s, .str t => o = .Add ∧ s.length + t.length ≤ big ∧ F (.str (s ++ t)) h
  | .str s, .int k => o = .Mult ∧ 0 ≤ k ∧ k ≤ 1000000 ∧ s.length * k.toNat ≤ 1000000 ∧ F (.str (strRep s k.toNat)) h
  | .tup xs, .tup ys => o = .Add ∧ xs.length + ys.length ≤ big ∧ F (.tup (xs ++ ys)) h
  | .itp xs, .itp ys => o = .Add ∧ xs.length + ys.length ≤ big ∧ F (.itp (xs ++ ys)) h
  | .tup xs, .int k => o = .Mult ∧ xs ≠ [] ∧ 0 ≤ k ∧ k ≤ 1000 ∧ xs.length ≤ 1000 ∧ F (.tup (List.replicate k.toNat xs).flatten) h
  | .itp xs, .int k => o = .Mult ∧ xs ≠ [] ∧ 0 ≤ k ∧ k ≤ 1000 ∧ xs.length ≤ 1000 ∧ F (.itp (List.replicate k.toNat xs).flatten) h
  | .ref r, .ref q => o = .Add ∧ getL h r fun xs => getL h q fun ys => xs.length + ys.length ≤ big ∧ F (.ref h.length) (h ++ [.lst (xs ++ ys)])
  | .ref r, .int k => o = .Mult ∧ getL h r fun xs => -(2 ^ 63) ≤ k ∧ k < 2 ^ 63 ∧ xs.length * k.toNat ≤ big ∧ F (.ref h.length) (h ++ [.lst ((List.replicate k.toNat xs).flatten)])
  | _, _ => False

/-! ### comparisons -/
/-- the order of texts by their codes -/
def strLt (s t : Str) : Bool := decide (s.cps.toList < t.cps.toList)
def inL (h : Hep) (x : PV) (ys : List PV) (K : Bool → Prop) : Prop :=
  ∃ d es, dat h 59 x = some d ∧ SeqAt.shaped d = true ∧ datAll (dat h 59) ys = some es ∧ PyData.canLayAll0 es = true ∧ K (es.any fun e => PyData.eqv e d)
def inW (h : Hep) (x y : PV) (K : Bool → Prop) : Prop := match y with
  | .str t => (match x with | .str s => K (!(Builtin.Str.occurrences t s 0 t.length 1).isEmpty) | _ => False)
  | .tup ys => inL h x ys K
  | .ils ys => inL h x ys K
  | .itp ys => inL h x ys K
  | .ref r => (match h[r]? with
    | some (.lst ys) => inL h x ys K
    | some (.dic kvs) => ∃ k, keyOf x = some k ∧ kindOk k kvs = true ∧ K (dget k kvs).isSome
    | _ => False)
  | _ => False
def cmpW (o : CmpOp) (x y : PV) (h : Hep) (K : Bool → Prop) : Prop := match o with
  | .Lt => (match x, y with | .int i, .int j => K (decide (i < j)) | .str s, .str t => K (strLt s t) | _, _ => False)
  | .LtE => (match x, y with | .int i, .int j => K (decide (i ≤ j)) | _, _ => False)
  | .Gt => (match x, y with | .int i, .int j => K (decide (j < i)) | _, _ => False)
  | .GtE => (match x, y with | .int i, .int j => K (decide (j ≤ i)) | _, _ => False)
  | .Eq => eqW h x y K
  | .NotEq => eqW h x y fun b => K (!b)
  | .Is => (match y with | .non => K (match x with | .non => true | _ => false) | .bl b => (match x with | .bl a => K (decide (a = b)) | _ => False) | _ => False)
  | .IsNot => (match y with | .non => K (match x with | .non => false | _ => true) | .bl b => (match x with | .bl a => K (!decide (a = b)) | _ => False) | _ => False)
  | .In => inW h x y K
  | .NotIn => inW h x y fun b => K (!b)

/-! ### places, slices -/
abbrev ixN := L2.ixN
abbrev sIx := HT.sIx
def cutL {α : Type} (xs : List α) (lo hi : Option Int) : List α := (xs.drop (sIx xs.length 0 lo)).take (sIx xs.length xs.length hi - sIx xs.length 0 lo)
def itemW (x i : PV) (h : Hep) (F : KQ) : Prop := match x, i with
  | .tup xs, .int i => ∃ j v, ixN xs.length i = some j ∧ xs[j]? = some v ∧ F v h
  | .ils xs, .int i => ∃ j v, ixN xs.length i = some j ∧ xs[j]? = some v ∧ F v h
  | .itp xs, .int i => ∃ j v, ixN xs.length i = some j ∧ xs[j]? = some v ∧ F v h
  | .str s, .int i => ∃ j c, s.length ≤ big ∧ ixN s.cps.toList.length i = some j ∧ s.cps.toList[j]? = some c ∧ F (.str ⟨#[c]⟩) h
  | .ref r, i => (match h[r]? with
    | some (.lst xs) => (match i with | .int i => ∃ j v, ixN xs.length i = some j ∧ xs[j]? = some v ∧ F v h | _ => False)
    | some (.dic kvs) => ∃ k v, keyOf i = some k ∧ dget k kvs = some v ∧ F v h
    | some (.ldc _ kvs) => ∃ k v, keyOf i = some k ∧ dget k kvs = some v ∧ F v h
    | _ => False)
  | _, _ => False
def sliceW (x : PV) (lo hi : Option Int) (h : Hep) (F : KQ) : Prop := match x with
  | .tup xs => F (.tup (cutL xs lo hi)) h
  | .ils xs => F (.ref h.length) (h ++ [.lst (cutL xs lo hi)])
  | .ref r => getL h r fun xs => F (.ref h.length) (h ++ [.lst (cutL xs lo hi)])
  | .str s => s.length ≤ big ∧ F (.str (L2.cutS s lo hi)) h
  | .itp xs => F (.itp (cutL xs lo hi)) h
  | _ => False
/-- x[::-1] -/
def revW (x : PV) (h : Hep) (F : KQ) : Prop := match x with
  | .tup xs => F (.itp xs.reverse) h
  | .itp xs => F (.itp xs.reverse) h
  | .ref r => getL h r fun ys => F (.ref h.length) (h ++ [.lst ys.reverse])
  | .ils ys => F (.ref h.length) (h ++ [.lst ys.reverse])
  | _ => False
/-- x[::s], s told to be 1 or -1 -/
def stpW (x y : PV) (h : Hep) (F : KQ) : Prop := match y with
  | .int i => (i = 1 ∧ listW h x fun ys => F (.ref h.length) (h ++ [.lst ys])) ∨ (i = -1 ∧ listW h x fun ys => F (.ref h.length) (h ++ [.lst ys.reverse]))
  | _ => False
/-- o[i] = v -/
def storeW (x i v : PV) (h : Hep) (F : Hep → Prop) : Prop := match x with
  | .ref r => (match h[r]? with
    | some (.lst xs) => (match i with | .int i => ∃ j, ixN xs.length i = some j ∧ F (h.set r (.lst (xs.set j v))) | _ => False)
    | some (.dic kvs) => ∃ k, keyOf i = some k ∧ kindOk k kvs = true ∧ kvs.length < big ∧ F (h.set r (.dic (dput k v kvs)))
    | _ => False)
  | _ => False

/-! ### the order of data, for sorted, min, max: ints, texts, tuples of such -/
def cmpA {α : Type} (lt : α → α → Bool) (x y : α) : Ordering := if lt x y then .lt else if lt y x then .gt else .eq
mutual
def cmpP : PV → PV → Ordering
  | .int i, .int j => cmpA (fun a b => decide (a < b)) i j
  | .str s, .str t => cmpA strLt s t
  | .tup xs, .tup ys => cmpPs xs ys
  | _, _ => .eq
def cmpPs : List PV → List PV → Ordering
  | [], [] => .eq
  | [], _ :: _ => .lt
  | _ :: _, [] => .gt
  | x :: xs, y :: ys => match cmpP x y with | .lt => .lt | .gt => .gt | .eq => cmpPs xs ys
end
/-- each once, where it comes first -/
def firsts {κ : Type} [DecidableEq κ] (xs : List κ) : List κ := xs.foldl (fun acc k => if k ∈ acc then acc else acc ++ [k]) []
/-- pairs of a key and a thing -/
def pairsOf : List PV → Option (List (At × PV))
  | [] => some []
  | .tup [k, v] :: r => (match keyAtom k, pairsOf r with | some a, some ps => some ((a, v) :: ps) | _, _ => none)
  | .itp [k, v] :: r => (match keyAtom k, pairsOf r with | some a, some ps => some ((a, v) :: ps) | _, _ => none)
  | _ :: _ => none
/-- the pairs of enumerate -/
def enumA : Nat → List PV → List (At × PV)
  | _, [] => []
  | k, x :: r => (.inl (k : Int), x) :: enumA (k + 1) r
def dputs (acc : List (Ky × PV)) (ps : List (At × PV)) : List (Ky × PV) := ps.foldl (fun d p => dput (.one p.1) p.2 d) acc
/-- pairs whose keys are tuples -/
def mpairs : List PV → Option (List (List At × PV))
  | [] => some []
  | .tup [k, v] :: r => (match keyOf k, mpairs r with | some (.many ks), some ps => some ((ks, v) :: ps) | _, _ => none)
  | .itp [k, v] :: r => (match keyOf k, mpairs r with | some (.many ks), some ps => some ((ks, v) :: ps) | _, _ => none)
  | _ :: _ => none
def dputM (acc : List (Ky × PV)) (ps : List (List At × PV)) : List (Ky × PV) := ps.foldl (fun d p => dput (.many p.1) p.2 d) acc
/-- a list, or a tuple that is known whole -/
def pairW (h : Hep) (x : PV) (F : List PV → Prop) : Prop := match x with
  | .ref r => getL h r F
  | .ils xs => F xs
  | .itp xs => F xs
  | _ => False
/-- d.get(k) -/
def dgetW (h : Hep) (x y : PV) (G : Option PV → Prop) : Prop := match x with
  | .ref r => getD h r fun kvs => ∃ k, keyOf y = some k ∧ kindOk k kvs = true ∧ G (dget k kvs)
  | _ => False
/-- d.setdefault(k, x) -/
def dsetW (h : Hep) (x y z : PV) (F : KQ) : Prop := match x with
  | .ref r => getD h r fun kvs => ∃ k, keyOf y = some (.one k) ∧ kindOk (.one k) kvs = true ∧ kvs.length < big ∧ (match dget (.one k) kvs with | some v => F v h | none => F z (h.set r (.dic (dput (.one k) z kvs))))
  | _ => False
def isD (h : Hep) (x : PV) : Prop := match x with | .ref r => getD h r fun _ => True | _ => False

/-- pairs of whole numbers -/
def ipairs : List PV → Option (List (Int × Int))
  | [] => some []
  | .tup [.int i, .int j] :: r => (ipairs r).map ((i, j) :: ·)
  | .itp [.int i, .int j] :: r => (ipairs r).map ((i, j) :: ·)
  | _ :: _ => none
def ltT (p q : Int × Int) : Prop := p.1 < q.1 ∨ (p.1 = q.1 ∧ p.2 < q.2)

/-! ### built-ins by their names -/
inductive BI where
  | len | max2 | min2 | sum | all | any | list | tuple | lenset | listrange | int | maxl | minl | sorted | sortedset | max3 | min3 | dict | xtuple | lenkeys | dictenum | minp | sortedk | sortedsetp | abs | listd | listitems | sorteditems | listzip | str1 | dictp | divmod | tuplerange
  deriving DecidableEq
inductive IT where
  | int | bool | str | list | tuple | dict
  deriving DecidableEq
def maxL : List Int → Int
  | [] => 0
  | [x] => x
  | x :: y :: r => max x (maxL (y :: r))
def minL : List Int → Int
  | [] => 0
  | [x] => x
  | x :: y :: r => min x (minL (y :: r))
/-- sorted, by the data -/
def sortZ (ys : List PV) (ds : List PyData) : List PV := ((ys.zip ds).mergeSort (PySem.W.dataLe false fun p => p.2)).map (·.1)
/-- tuple(..), known whole, of a list or of a text -/
def xtW (x : PV) (h : Hep) (F : KQ) : Prop := match x with
  | .str s => s.length ≤ big ∧ F (.itp (signsOf s)) h
  | .ref r => getL h r fun ys => F (.itp ys) h
  | .ils ys => F (.itp ys) h
  | _ => False
def zipL : List PV → List PV → List PV
  | x :: xs, y :: ys => .tup [x, y] :: zipL xs ys
  | _, _ => []
/-- a number as a text -/
def numS (i : Int) : Str := Str.ofString (toString i)
def biW (b : BI) (xs : List PV) (h : Hep) (F : KQ) : Prop := match b, xs with
  | .len, [.str s] => s.length ≤ big ∧ F (.int s.length) h
  | .len, [.tup ys] => F (.int ys.length) h
  | .len, [.ils ys] => F (.int ys.length) h
  | .len, [.itp ys] => F (.int ys.length) h
  | .len, [.ref r] => getL h r fun ys => F (.int ys.length) h
  | .max2, [.int i, .int j] => F (.int (max i j)) h
  | .min2, [.int i, .int j] => F (.int (min i j)) h
  | .max3, [.int i, .int j, .int k] => F (.int (max (max i j) k)) h
  | .min3, [.int i, .int j, .int k] => F (.int (min (min i j) k)) h
  | .minp, [x] => listW h x fun ys => ∃ d ds, datAll (dat h 59) ys = some (d :: ds) ∧ PySem.W.AlikeAll (d :: ds) ∧ PyData.depthAll (d :: ds) ≤ 60 ∧ ∀ (i : Nat) (v : PV), ys[i]? = some v → (d :: ds)[i]? = some (PySem.W.minD d ds) → F v h
  | .sortedk, [x] => (match x with
    | .ref r => getD h r fun kvs => kvs ≠ [] ∧ ∃ ks : List Int, kvs.map (·.1) = ks.map (fun i => Ky.one (.inl i)) ∧ ks.length < 64 ∧ ∀ ms : List Int, ms.Perm ks → ms.Pairwise (· ≤ ·) → F (.ref h.length) (h ++ [.lst (ms.map PV.int)])
    | _ => False)
  | .sum, [x] => listW h x fun ys => ∃ ns, intsOf ys = some ns ∧ F (.int ns.sum) h
  | .all, [x] => listW h x fun ys => ∃ bs, boolsOf ys = some bs ∧ F (.bl (bs.all id)) h
  | .any, [x] => listW h x fun ys => ∃ bs, boolsOf ys = some bs ∧ F (.bl (bs.any id)) h
  | .list, [x] => seqW h x fun ys => F (.ref h.length) (h ++ [.lst ys])
  | .tuple, [.tup ys] => F (.tup ys) h
  | .tuple, [.itp ys] => F (.itp ys) h
  | .tuple, [x] => listW h x fun ys => F (.tup ys) h
  | .divmod, [.int i, .int j] => 0 < j ∧ j < 1073741824 ∧ F (.tup [.int (i / j), .int (i % j)]) h
  | .tuplerange, [.int n] => -(2 ^ 62) ≤ n ∧ n ≤ big ∧ F (.tup ((List.range n.toNat).map fun (i : Nat) => PV.int i)) h
  | .listrange, [.int n] => -(2 ^ 62) ≤ n ∧ n ≤ big ∧ F (.ref h.length) (h ++ [.lst ((List.range n.toNat).map fun (i : Nat) => PV.int i)])
  | .listrange, [.int a, .int b] => -(2 ^ 62) ≤ a ∧ a < 2 ^ 62 ∧ -(2 ^ 62) ≤ b ∧ b < 2 ^ 62 ∧ b - a ≤ big ∧ F (.ref h.length) (h ++ [.lst ((List.range (b - a).toNat).map fun (i : Nat) => PV.int (a + i))])
  | .maxl, [x] => seqW h x fun ys => ∃ ns, intsOf ys = some ns ∧ ns ≠ [] ∧ F (.int (maxL ns)) h
  | .minl, [x] => seqW h x fun ys => ∃ ns, intsOf ys = some ns ∧ ns ≠ [] ∧ F (.int (minL ns)) h
  | .lenset, [x] => listW h x fun ys => ∃ ns, intsOf ys = some ns ∧ ns.length ≤ 4000 ∧ ns.Nodup ∧ F (.int ns.length) h
  | .sorted, [x] => seqW h x fun ys => ∃ ds, datAll (dat h 59) ys = some ds ∧ PySem.W.AllAlike ds ∧ PySem.W.Sortable ds ∧ F (.ref h.length) (h ++ [.lst (sortZ ys ds)])
  | .sortedset, [x] => seqW h x fun ys => ∃ ns, intsOf ys = some ns ∧ ns.length < 64 ∧ ∀ ms : List Int, ms.Pairwise (· < ·) → (∀ k, k ∈ ms ↔ k ∈ ns) → F (.ref h.length) (h ++ [.lst (ms.map PV.int)])
  | .sortedsetp, [x] => (match x with
    | .ref r => getL h r fun ys => ∃ L, ipairs ys = some L ∧ L.length ≤ 1200 ∧ ∀ (zs : List PV) (ms : List (Int × Int)), ipairs zs = some ms → (∀ z ∈ zs, z ∈ ys) → (∀ p, p ∈ ms ↔ p ∈ L) → ms.Pairwise ltT → F (.ref h.length) (h ++ [.lst zs])
    | _ => False)
  | .dict, [x] => pairW h x fun ys => ∃ ps, pairsOf ys = some ps ∧ F (.ref h.length) (h ++ [.dic (dputs [] ps)])
  | .dictenum, [x] => seqW h x fun ys => F (.ref h.length) (h ++ [.dic (dputs [] (enumA 0 ys))])
  | .xtuple, [x] => xtW x h F
  | .lenkeys, [x] => seqW h x fun ys => ∃ ks, keyAtoms ys = some ks ∧ ks.length ≤ 4000 ∧ F (.int (firsts ks).length) h
  | .int, [.int i] => F (.int i) h
  | .listd, [x] => (match x with
    | .ref r => getD h r fun kvs => F (.ref h.length) (h ++ [.lst (kvs.map fun p => keyV p.1)])
    | _ => False)
  | .listitems, [x] => (match x with
    | .ref r => getD h r fun kvs => F (.ref h.length) (h ++ [.lst (kvs.map fun p => .tup [keyV p.1, p.2])])
    | _ => False)
  | .sorteditems, [x] => (match x with
    | .ref r => getD h r fun kvs => ∃ ds, datAll (dat h 59) (kvs.map fun p => .tup [keyV p.1, p.2]) = some ds ∧ PySem.W.AllAlike ds ∧ PySem.W.Sortable ds ∧ F (.ref h.length) (h ++ [.lst (sortZ (kvs.map fun p => .tup [keyV p.1, p.2]) ds)])
    | _ => False)
  | .listzip, [x, y] => seqW h x fun xs => seqW h y fun ys => F (.ref h.length) (h ++ [.lst (zipL xs ys)])
  | .abs, [.int i] => F (.int (if i < 0 then -i else i)) h
  | .str1, [.int i] => i.natAbs.log2 < 1920 ∧ F (.str (numS i)) h
  | .str1, [.str s] => F (.str s) h
  | .dictp, [x] => listW h x fun ys => ∃ ps, mpairs ys = some ps ∧ F (.ref h.length) (h ++ [.dic (dputM [] ps)])
  | .int, [.bl b] => F (.int (if b then 1 else 0)) h
  | .int, [.str s] => ∃ n, PySem.intText? s = some n ∧ s.length ≤ 640 ∧ F (.int n) h
  | _, _ => False
/-- isinstance -/
def isT (t : IT) (h : Hep) (x : PV) (K : Bool → Prop) : Prop := match x with
  | .non => K false
  | .bl _ => K (t == .bool || t == .int)
  | .int _ => K (t == .int)
  | .str _ => K (t == .str)
  | .tup _ => K (t == .tuple)
  | .ils _ => K (t == .list)
  | .itp _ => K (t == .tuple)
  | .exc _ _ _ => False
  | .fnv _ _ _ _ _ => False
  | .lam _ _ _ _ => False
  | .ref r => match h[r]? with | some (.lst _) => K (t == .list) | some (.dic _) => K (t == .dict) | _ => False

/-! ### methods of built-in types -/
inductive MI where
  | append | pop | popAt | index | remove | extend | clear | count | insert
  deriving DecidableEq
def isL (h : Hep) (x : PV) : Prop := match x with | .ref r => getL h r fun _ => True | _ => False
def miW (m : MI) (x : PV) (xs : List PV) (h : Hep) (F : KQ) : Prop := match m, x, xs with
  | .append, .ref r, [v] => getL h r fun ys => ys.length < big ∧ F .non (h.set r (.lst (ys ++ [v])))
  | .pop, .ref r, [] => getL h r fun ys => ∃ v, ys[ys.length - 1]? = some v ∧ F v (h.set r (.lst ys.dropLast))
  | .popAt, .ref r, [.int i] => getL h r fun ys => ∃ j v, -(2 ^ 63) ≤ i ∧ i < 2 ^ 63 ∧ ixN ys.length i = some j ∧ ys[j]? = some v ∧ F v (h.set r (.lst (ys.eraseIdx j)))
  | .index, .ref r, [v] => getL h r fun ys => ∃ d ds j z, dat h 59 v = some d ∧ SeqAt.shaped d = true ∧ datAll (dat h 59) ys = some ds ∧ PyData.canLayAll0 ds = true ∧ ds[j]? = some z ∧ PyData.eqv z d = true ∧
      (∀ (m : Nat) (z' : PyData), m < j → ds[m]? = some z' → PyData.eqv z' d = false) ∧ F (.int (j : Nat)) h
  | .remove, .ref r, [.int i] => getL h r fun ys => ∃ ns j, intsOf ys = some ns ∧ ns[j]? = some i ∧ (∀ m : Nat, m < j → ns[m]? ≠ some i) ∧ F .non (h.set r (.lst (ys.eraseIdx j)))
  | .extend, .ref r, [.ref q] => getL h r fun ys => getL h q fun zs => ys.length + zs.length ≤ big ∧ F .non (h.set r (.lst (ys ++ zs)))
  | .extend, .ref r, [.tup zs] => getL h r fun ys => ys.length + zs.length ≤ big ∧ F .non (h.set r (.lst (ys ++ zs)))
  | .extend, .ref r, [.itp zs] => getL h r fun ys => ys.length + zs.length ≤ big ∧ F .non (h.set r (.lst (ys ++ zs)))
  | .insert, .ref r, [.int i, v] => getL h r fun ys => ys.length < big ∧ 0 ≤ i ∧ i < 2 ^ 63 ∧ F .non (h.set r (.lst (ys.take i.toNat ++ [v] ++ ys.drop i.toNat)))
  | .clear, .ref r, [] => getL h r fun _ => F .non (h.set r (.lst []))
  | .count, .ref r, [v] => getL h r fun ys => ∃ d ds, dat h 59 v = some d ∧ SeqAt.shaped d = true ∧ datAll (dat h 59) ys = some ds ∧ PyData.canLayAll0 ds = true ∧ F (.int ((ds.countP fun z => PyData.eqv z d : Nat) : Int)) h
  | _, _, _ => False

/-! ### methods of texts, with one argument -/
inductive SM where
  | join | index | split | partition
  deriving DecidableEq
def isS (x : PV) : Prop := match x with | .str _ => True | _ => False
/-- texts, one behind the other, a text between them -/
def joinZ (a : Str) (ys : List Str) : Str := PySem.Txt.join a ys
def splitZ (a b : Str) : List Str := PySem.Txt.split a b
def partZ (a b : Str) : Str × Str × Str := PySem.Txt.partition a b
def smW (m : SM) (x y : PV) (h : Hep) (F : KQ) : Prop := match m, x with
  | .join, .str a => seqW h y fun ys => ∃ ss, strsOf ys = some ss ∧ (ss.map (·.length)).sum + ss.length * a.length ≤ big ∧ F (.str (joinZ a ss)) h
  | .index, .str a => (match y with | .str b => ∃ (i : Nat) (rest : List Nat), Builtin.Str.occurrences a b 0 a.length 1 = i :: rest ∧ F (.int i) h | _ => False)
  | .split, .str a => (match y with | .str b => (b.length == 0) = false ∧ a.length + 2 ≤ big ∧ F (.ref h.length) (h ++ [.lst ((splitZ a b).map PV.str)]) | _ => False)
  | .partition, .str a => (match y with | .str b => (b.length == 0) = false ∧ a.length ≤ big ∧ F (.tup [.str (partZ a b).1, .str (partZ a b).2.1, .str (partZ a b).2.2]) h | _ => False)
  | _, _ => False

def isWt (x : PV) : Prop := match x with | .itp _ => True | _ => False
/-- t.index(a text) -/
def tixW (x y : PV) (h : Hep) (F : KQ) : Prop := match x, y with
  | .itp ys, .str z => ∃ ss j, strsOf ys = some ss ∧ ss[j]? = some z ∧ (∀ m, m < j → ss[m]? ≠ some z) ∧ F (.int (j : Nat)) h
  | _, _ => False
/-! ### instances -/
/-- what a body may call: a def, a method, a class; or a class's fields by name -/
inductive Cn where
  | fn (x : Str) | me (c m : Str) | mk (c : Str) | cl (c : Str) (fs : List Str) | kd (x : Str) (kvs : List (Str × Int)) | er (c : Str) | xs (rs ts : List Str) | ei (c f : Str) | xf (c f : Str) | gd | tk | sa (x : Str) | ac | no | gs | ce
  deriving DecidableEq
instance : Coe String Cn := ⟨fun s => .fn (Str.ofString s)⟩
/-- what a comprehension, what a lambda may lean on -/
def deC : Cn → Cn
  | .tk => .no | .sa _ => .no | .ac => .no | .ce => .no | x => x
def deL : Cn → Cn
  | .gd => .no | .gs => .no | x => deC x
def putZ (f : Str) (v : PV) : List (Str × PV) → List (Str × PV)
  | [] => [(f, v)]
  | (g, x) :: r => if g = f then (g, v) :: r else (g, x) :: putZ f v r
def fldW (h : Hep) (x : PV) (c f : Str) (F : PV → Prop) : Prop := match x with
  | .ref r => getO h r fun c' fs => c' = c ∧ ∃ v, fs.lookup f = some v ∧ F v
  | _ => False
def insW (h : Hep) (x : PV) (c m : Str) : Prop := match x with
  | .ref r => getO h r fun c' fs => c' = c ∧ fs.lookup m = none
  | _ => False
def stfW (x v : PV) (c f : Str) (h : Hep) (G : Hep → Prop) : Prop := match x with
  | .ref r => getO h r fun c' fs => c' = c ∧ fs.length < 1000 ∧ G (h.set r (.ins c (putZ f v fs)))
  | _ => False

/-! ### a dict by texts that stands at the module's top -/
def kinW (kvs : List (Str × Int)) (x : PV) (K : Bool → Prop) : Prop := match x with | .str s => K (kvs.lookup s).isSome | _ => False
def kixW (kvs : List (Str × Int)) (x : PV) (K : Int → Prop) : Prop := match x with | .str s => ∃ i, kvs.lookup s = some i ∧ K i | _ => False

/-! ### exceptions -/
/-- is an instance of the error class a one of c? The program's own error classes lie flat below PlanError, that one below ValueError. -/
def subX (a c : Str) : Bool := a == c || c == ("PlanError" : Str) || c == ("ValueError" : Str)
/-- isinstance(x, c) of a kept exception, one of rs -/
def isxW (x : PV) (rs : List Str) (c : Str) (K : Bool → Prop) : Prop := match x with
  | .exc a _ _ => a ∈ rs ∧ K (subX a c)
  | _ => False
/-- isinstance(x, (c1, c2, ..)) of a kept exception, one of rs -/
def isxsW (x : PV) (rs cs : List Str) (K : Bool → Prop) : Prop := match x with
  | .exc a _ _ => a ∈ rs ∧ K (cs.any (subX a))
  | _ => False
def fldxW (x : PV) (c f : Str) (F : PV → Prop) : Prop := match x with
  | .exc a ns vs => a = c ∧ ∃ v, (ns.zip vs).lookup f = some v ∧ F v
  | _ => False
def keptV (x : XV) : PV := .exc x.cls (x.fs.map (·.1)) (x.fs.map (·.2))

/-! ### the language -/
inductive Tg where
  | nm (i : Nat) | tp (ts : List Tg)
inductive Ex where
  | var (i : Nat) | non | bl (b : Bool) | int (i : Int) | str (s : Str)
  | con (x : Str) (v : PV)
  | bin (o : Operator) (a b : Ex) | neg (a : Ex) | not (a : Ex) | and (a b : Ex) | or (a b : Ex) | ife (c a b : Ex)
  | cmp (o : CmpOp) (a b : Ex) | chn (o o' : CmpOp) (a b c : Ex) | chn3 (o o' o'' : CmpOp) (a b c d : Ex)
  | tup (es : List Ex) | lst (es : List Ex) | dct
  | idx (a i : Ex) | slc (a : Ex) (lo hi : Option Ex)
  | call (f : Nat) (es : List Ex) | bi (b : BI) (es : List Ex) | mi (m : MI) (a : Ex) (es : List Ex)
  | isi (a : Ex) (t : IT) | isx (a : Ex) (rs : List Str) (c : Str) | isxs (a : Ex) (rs cs : List Str)
  | mdf (mx : Bool) (a : Ex) | rev (a : Ex) | revt (a : Ex) | dcl (a : Ex) | dt1 (a x : Ex)
  | xtp (es : List Ex) | dg1 (a k : Ex) | stp (a k : Ex) | dg2 (a k d : Ex) | sm (m : SM) (a b : Ex) | dcd (ks : List At) (es : List Ex) | fldx (a : Ex) (c f : Str) | rep (a : Ex) | lck (i : Nat) (e : Ex) | lka (e : Ex)
  | fld (a : Ex) (c f : Str) | mth (i : Nat) (c m : Str) (a : Ex) (es : List Ex) | new (i : Nat) (c : Str) (es : List Ex)
  | comp (own : List Nat) (t : Tg) (it : Ex) (c : Option Ex) (e : Ex)
  | act (j : Nat) | lmc (i j : Nat) (b : Ex) | rpd (a : Ex) | rpl (a : Ex) | skl (j p : Nat) (it b : Ex) | lrv (a : Ex) | dsd (a k d : Ex) | tix (a b : Ex) | enums (a : Ex) (c : Nat) | kin (neg : Bool) (x : Str) (kvs : List (Str × Int)) (a : Ex) | kix (x : Str) (kvs : List (Str × Int)) (a : Ex)
  | dpop (a k : Ex)
  | lmv (j m : Nat) (ds : List (PySem.Expr × PySem.Scope)) (k : Nat) | coms (i j m p k : Nat) (ds : List (PySem.Expr × PySem.Scope)) (bs : List Ex) (tl : Bool)
  -- what is only walked
  | wlk (a : Ex) | rng1 (a : Ex) | rng2 (a b : Ex) | rng3 (a b c : Ex) | enum (a : Ex) | zip (a b : Ex) | wld (i : Nat) | wlx (a : Ex) | rvs (a : Ex) | zipn (a b : Ex) | its (a : Ex)

/-! ### storing at targets -/
mutual
def tgt : Tg → PV → Env → Option Env
  | .nm i, v, σ => some (σ.set i (some v))
  | .tp ts, .tup xs, σ => tgts ts xs σ
  | .tp ts, .itp xs, σ => tgts ts xs σ
  | .tp _, _, _ => none
def tgts : List Tg → List PV → Env → Option Env
  | [], [], σ => some σ
  | t :: ts, x :: xs, σ => match tgt t x σ with | some σ' => tgts ts xs σ' | none => none
  | _, _, _ => none
end
def wipeZ (σ : Env) : List Nat → Env
  | [] => σ
  | v :: vs => (wipeZ σ vs).set v none

/-- what a walk leans on: lists that stand as they are -/
abbrev Grd := List (Nat × Ob)
def grdOk (h : Hep) : Grd → Prop
  | [] => True
  | (r, o) :: g => h[r]? = some o ∧ grdOk h g
def walkW (h : Hep) (x : PV) (F : List PV → Grd → Prop) : Prop := match x with
  | .tup xs => F xs []
  | .itp xs => F xs []
  | .ils xs => F xs []
  | .ref r => getL h r fun xs => F xs [(r, .lst xs)]
  | .str s => F (signsOf s) []
  | _ => False
def enumL : Nat → List PV → List PV
  | _, [] => []
  | i, x :: r => .tup [.int i, x] :: enumL (i + 1) r
def rngC (lo c : Int) (n : Nat) : List PV := (List.range n).map fun (i : Nat) => PV.int (lo + (i : Int) * c)
def rngL (lo : Int) (n : Nat) : List PV := (List.range n).map fun (i : Nat) => PV.int (lo + i)

/-- a comprehension's turns -/
def wComp (g : Grd) (t : Tg) (c : Env → Hep → KB → Prop) (e : Env → Hep → KQ → Prop) (σ : Env) : List PV → List PV → Hep → (List PV → Hep → Prop) → Prop
  | [], acc, h, F => grdOk h g ∧ F acc h
  | x :: r, acc, h, F => grdOk h g ∧ match tgt t x σ with
    | some σ' => c σ' h fun b h1 => if b = true then e σ' h1 fun y h2 => acc.length < big ∧ wComp g t c e σ r (acc ++ [y]) h2 F else wComp g t c e σ r acc h1 F
    | none => False

/-- the keys of a sort, one item behind the other; p: the key's own parameter -/
def wKeys (e : Env → Hep → KQ → Prop) (p : Nat) (σ : Env) : List PV → List PV → Hep → (List PV → Hep → Prop) → Prop
  | [], acc, h, F => F acc h
  | x :: r, acc, h, F => e (σ.set p (some x)) h fun y h1 => wKeys e p σ r (acc ++ [y]) h1 F

/-- d.pop(k), there -/
def dpopW (x y : PV) (h : Hep) (F : KQ) : Prop := match x with
  | .ref r => getD h r fun kvs => ∃ k v, keyOf y = some (.one k) ∧ dget (.one k) kvs = some v ∧ F v (h.set r (.dic (ddel (.one k) kvs)))
  | _ => False
/-- what comes behind an answer: the answer itself, or whether it is a list -/
def comsK (tl : Bool) (G : KQ) (v : PV) (h : Hep) : Prop := if tl = true then isT .list h v (fun b => G (.bl b) h) else G v h
mutual
def wE (Γ : List Spec) : Ex → Env → Hep → KQ → KX → Prop
  | .var i, σ, h, F, _ => (match σ[i]? with | some (some v) => F v h | _ => False)
  | .non, _, h, F, _ => F .non h
  | .bl b, _, h, F, _ => F (.bl b) h
  | .int i, _, h, F, _ => F (.int i) h
  | .str s, _, h, F, _ => F (.str s) h
  | .con _ v, _, h, F, _ => F v h
  | .bin o a b, σ, h, F, E => wE Γ a σ h (fun x h1 => wE Γ b σ h1 (fun y h2 => binW o x y h2 F) E) E
  | .neg a, σ, h, F, E => wE Γ a σ h (fun x h1 => match x with | .int i => F (.int (-i)) h1 | _ => False) E
  | .not a, σ, h, F, E => wE Γ a σ h (fun x h1 => truW h1 x fun b => F (.bl (!b)) h1) E
  | .and a b, σ, h, F, E => wE Γ a σ h (fun x h1 => truW h1 x fun t => if t = true then wE Γ b σ h1 F E else F x h1) E
  | .or a b, σ, h, F, E => wE Γ a σ h (fun x h1 => truW h1 x fun t => if t = true then F x h1 else wE Γ b σ h1 F E) E
  | .ife c a b, σ, h, F, E => wE Γ c σ h (fun x h1 => truW h1 x fun t => if t = true then wE Γ a σ h1 F E else wE Γ b σ h1 F E) E
  | .cmp o a b, σ, h, F, E => wE Γ a σ h (fun x h1 => wE Γ b σ h1 (fun y h2 => cmpW o x y h2 fun t => F (.bl t) h2) E) E
  | .chn o o' a b c, σ, h, F, E => wE Γ a σ h (fun x h1 => wE Γ b σ h1 (fun y h2 => cmpW o x y h2 fun t => if t = true then wE Γ c σ h2 (fun z h3 => cmpW o' y z h3 fun u => F (.bl u) h3) E else F (.bl false) h2) E) E
  | .chn3 o o' o'' a b c d, σ, h, F, E => wE Γ a σ h (fun x h1 => wE Γ b σ h1 (fun y h2 => cmpW o x y h2 fun t => if t = true then wE Γ c σ h2 (fun z h3 => cmpW o' y z h3 fun u => if u = true then wE Γ d σ h3 (fun w h4 => cmpW o'' z w h4 fun u => F (.bl u) h4) E else F (.bl false) h3) E else F (.bl false) h2) E) E
  | .tup es, σ, h, F, E => wEs Γ es σ h (fun xs h1 => xs.length ≤ big ∧ F (.tup xs) h1) E
  | .lst es, σ, h, F, E => wEs Γ es σ h (fun xs h1 => xs.length ≤ big ∧ F (.ref h1.length) (h1 ++ [.lst xs])) E
  | .dct, _, h, F, _ => F (.ref h.length) (h ++ [.dic []])
  | .idx a i, σ, h, F, E => wE Γ a σ h (fun x h1 => wE Γ i σ h1 (fun y h2 => itemW x y h2 F) E) E
  | .slc a lo hi, σ, h, F, E => wE Γ a σ h (fun x h1 => wO Γ lo σ h1 (fun l h2 => wO Γ hi σ h2 (fun u h3 => sliceW x l u h3 F) E) E) E
  | .call f es, σ, h, F, E => wEs Γ es σ h (fun xs h1 => match Γ[f]? with | some S => S xs h1 F E | none => False) E
  | .bi b es, σ, h, F, E => wEs Γ es σ h (fun xs h1 => biW b xs h1 F) E
  | .mi m a es, σ, h, F, E => wE Γ a σ h (fun x h1 => isL h1 x ∧ wEs Γ es σ h1 (fun xs h2 => miW m x xs h2 F) E) E
  | .isi a t, σ, h, F, E => wE Γ a σ h (fun x h1 => isT t h1 x fun b => F (.bl b) h1) E
  | .isxs a rs cs, σ, h, F, E => wE Γ a σ h (fun x h1 => isxsW x rs cs fun b => F (.bl b) h1) E
  | .isx a rs c, σ, h, F, E => wE Γ a σ h (fun x h1 => isxW x rs c fun b => F (.bl b) h1) E
  | .mdf mx a, σ, h, F, E => wE Γ a σ h (fun x h1 => listW h1 x fun ys => ∃ ns, intsOf ys = some ns ∧ F (if ns = [] then .non else .int (if mx = true then maxL ns else minL ns)) h1) E
  | .rev a, σ, h, F, E => wE Γ a σ h (fun x h1 => revW x h1 F) E
  | .revt a, σ, h, F, E => wE Γ a σ h (fun x h1 => match x with | .tup xs => F (.tup xs.reverse) h1 | _ => False) E
  | .dcl a, σ, h, F, E => wE Γ a σ h (fun x h1 => match x with | .ref r => getD h1 r fun _ => F .non (h1.set r (.dic [])) | _ => False) E
  | .dt1 a x, σ, h, F, E => wE Γ a σ h (fun k h1 => wE Γ x σ h1 (fun v h2 => ∃ ks, keyOf k = some (.many ks) ∧ F (.ref h2.length) (h2 ++ [.dic [(.many ks, v)]])) E) E
  | .xtp es, σ, h, F, E => wEs Γ es σ h (fun xs h1 => xs.length ≤ big ∧ F (.itp xs) h1) E
  | .stp a k, σ, h, F, E => wE Γ a σ h (fun x h1 => wE Γ k σ h1 (fun y h2 => stpW x y h2 F) E) E
  | .dg1 a k, σ, h, F, E => wE Γ a σ h (fun x h1 => isD h1 x ∧ wE Γ k σ h1 (fun y h2 => dgetW h2 x y fun o => F (o.getD .non) h2) E) E
  | .dg2 a k d, σ, h, F, E => wE Γ a σ h (fun x h1 => isD h1 x ∧ wE Γ k σ h1 (fun y h2 => wE Γ d σ h2 (fun z h3 => dgetW h3 x y fun o => F (o.getD z) h3) E) E) E
  | .sm m a b, σ, h, F, E => wE Γ a σ h (fun x h1 => isS x ∧ wE Γ b σ h1 (fun y h2 => smW m x y h2 F) E) E
  | .dcd ks es, σ, h, F, E => wEs Γ es σ h (fun xs h1 => F (.ref h1.length) (h1 ++ [.dic (dputs [] (ks.zip xs))])) E
  | .rep a, σ, h, F, E => wE Γ a σ h (fun x h1 => ∃ d, dat h1 59 x = some d ∧ SeqAt.shaped d = true ∧ d.showable = true ∧ d.shown.length ≤ big ∧ F (.str d.shown) h1) E
  | .rpl a, σ, h, F, E => wE Γ a σ h (fun x h1 => ∃ d, dat h1 180 x = some d ∧ d.showable = true ∧ d.shown.length ≤ big ∧ F (.str d.shown) h1) E
  | .fldx a c f, σ, h, F, E => wE Γ a σ h (fun x h1 => fldxW x c f fun v => F v h1) E
  | .fld a c f, σ, h, F, E => wE Γ a σ h (fun x h1 => fldW h1 x c f fun v => F v h1) E
  | .mth i c m a es, σ, h, F, E => wE Γ a σ h (fun x h1 => insW h1 x c m ∧ wEs Γ es σ h1 (fun xs h2 => match Γ[i]? with | some S => S (x :: xs) h2 F E | none => False) E) E
  | .new i c es, σ, h, F, E => wEs Γ es σ h (fun xs h1 => match Γ[i]? with | some S => S (.ref h1.length :: xs) (h1 ++ [.ins c []]) (fun v h2 => v = .non ∧ F (.ref h1.length) h2) E | none => False) E
  | .comp own t it c e, σ, h, F, E => wI Γ it σ h (fun items g h1 => wComp g t (fun σ' h' G => wC Γ c σ' h' G) (fun σ' h' G => wE Γ e σ' h' G noX) (wipeZ σ own) items [] h1 fun acc h2 => F (.ref h2.length) (h2 ++ [.lst acc])) E
  | .lck i e, σ, h, F, _ => (match σ[i]? with
    | some (some (.ref r)) => getD h r fun kvs => ∀ u : L2.HO, wE Γ e σ (h.set r (.ldc u kvs)) (fun x h1 => h1[r]? = some (.ldc u kvs) ∧ F x (h1.set r (.dic kvs))) noX
    | _ => False)
  | .lka e, σ, h, F, _ => ∃ (r : Nat) (kvs : List (Ky × PV)), h[r]? = some (.dic kvs) ∧ ∀ u : L2.HO, wE Γ e σ (h.set r (.ldc u kvs)) (fun x h1 => h1[r]? = some (.ldc u kvs) ∧ F x (h1.set r (.dic kvs))) noX
  | .rpd a, σ, h, F, E => wE Γ a σ h (fun x h1 => ∃ d, datR h1 59 x = some d ∧ d.showable = true ∧ d.shown.length ≤ big ∧ F (.str d.shown) h1) E
  | .act j, σ, h, F, E => (match σ[0]? with | some (some x) => (match Γ[j]? with | some S => S [x] h F E | none => False) | _ => False)
  | .lmc i j b, σ, h, F, _ => (match Γ[j]? with | some T => T [] h (fun _ _ => wE Γ b σ h (fun v h2 => match Γ[i]? with | some S => S [.bl true, v] h2 F noX | none => False) fun x h2 => match Γ[i]? with | some S => S [.bl false, keptV x] h2 F noX | none => False) noX | none => False)
  | .skl j p it b, σ, h, F, E => wE Γ it σ h (fun x h1 => listW h1 x fun ys => match Γ[j]? with
    | some T => T [] h1 (fun _ _ => wKeys (fun σ' h' G => wE Γ b σ' h' G noX) p σ ys [] h1 fun ks h2 => ∃ ds, datAll (dat h2 59) ks = some ds ∧ PySem.W.AllAlike ds ∧ PySem.W.Sortable ds ∧ F (.ref h2.length) (h2 ++ [.lst (sortZ ys ds)])) noX
    | none => False) E
  | .dsd a k d, σ, h, F, E => wE Γ a σ h (fun x h1 => isD h1 x ∧ wE Γ k σ h1 (fun y h2 => wE Γ d σ h2 (fun z h3 => dsetW h3 x y z F) E) E) E
  | .tix a b, σ, h, F, E => wE Γ a σ h (fun x h1 => isWt x ∧ wE Γ b σ h1 (fun y h2 => tixW x y h2 F) E) E
  | .kin neg _ kvs a, σ, h, F, E => wE Γ a σ h (fun x h1 => kinW kvs x fun b => F (.bl (if neg = true then !b else b)) h1) E
  | .kix _ kvs a, σ, h, F, E => wE Γ a σ h (fun x h1 => kixW kvs x fun i => F (.int i) h1) E
  | .dpop a k, σ, h, F, E => wE Γ a σ h (fun x h1 => isD h1 x ∧ wE Γ k σ h1 (fun y h2 => dpopW x y h2 F) E) E
  | .lmv j m ds k, _, h, F, _ => (match Γ[j]?, Γ[m]? with
    | some T, some S => T [] h (fun _ _ => S [.lam ds k ("" : Str) []] h F noX) noX
    | _, _ => False)
  | .coms i j m p k ds bs tl, σ, h, F, _ => (match σ[k]? with
    | some (some x) => walkW h x fun items g => wComp g (.nm p) (fun _ h' G => G true h') (fun σ' h' G => (match σ'[p]?, Γ[i]?, Γ[m]? with
      | some (some (.lam ds' n q cl)), some Sa, some S => ds' = ds ∧ S [.lam ds n ("" : Str) []] h' (fun w _ => w = .lam ds n q cl ∧ wN Γ bs n σ h' (fun v h2 => Sa [.bl true, v] h2 (comsK tl G) noX) fun y h2 => Sa [.bl false, keptV y] h2 (comsK tl G) noX) noX
      | _, _, _ => False)) (wipeZ σ [p]) items [] h fun acc h2 => F (.ref h2.length) (h2 ++ [.lst acc])
    | _ => False)
  | .enums _ _, _, _, _, _ => False
  | .lrv a, σ, h, F, E => wE Γ a σ h (fun x h1 => listW h1 x fun ys => F (.ref h1.length) (h1 ++ [.lst ys.reverse])) E
  | .wld _, _, _, _, _ => False
  | .wlx _, _, _, _, _ => False
  | .rvs _, _, _, _, _ => False
  | .wlk _, _, _, _, _ => False
  | .rng1 _, _, _, _, _ => False
  | .rng2 _ _, _, _, _, _ => False
  | .rng3 _ _ _, _, _, _, _ => False
  | .enum _, _, _, _, _ => False
  | .zip _ _, _, _, _, _ => False
  | .zipn _ _, _, _, _, _ => False
  | .its _, _, _, _, _ => False
termination_by structural e => e
def wEs (Γ : List Spec) : List Ex → Env → Hep → (List PV → Hep → Prop) → KX → Prop
  | [], _, h, F, _ => F [] h
  | e :: es, σ, h, F, E => wE Γ e σ h (fun x h1 => wEs Γ es σ h1 (fun xs h2 => F (x :: xs) h2) E) E
termination_by structural e => e
def wN (Γ : List Spec) : List Ex → Nat → Env → Hep → KQ → KX → Prop
  | [], _, _, _, _, _ => False
  | e :: _, 0, σ, h, F, E => wE Γ e σ h F E
  | _ :: es, n + 1, σ, h, F, E => wN Γ es n σ h F E
termination_by structural e => e
def wO (Γ : List Spec) : Option Ex → Env → Hep → (Option Int → Hep → Prop) → KX → Prop
  | none, _, h, F, _ => F none h
  | some e, σ, h, F, E => wE Γ e σ h (fun x h1 => match x with | .int i => F (some i) h1 | _ => False) E
termination_by structural e => e
/-- a comprehension's condition -/
def wC (Γ : List Spec) : Option Ex → Env → Hep → KB → Prop
  | none, _, h, F => F true h
  | some e, σ, h, F => wE Γ e σ h (fun x h1 => truW h1 x fun b => F b h1) noX
termination_by structural e => e
/-- what is walked -/
def wI (Γ : List Spec) : Ex → Env → Hep → (List PV → Grd → Hep → Prop) → KX → Prop
  | .rng1 a, σ, h, F, E => wE Γ a σ h (fun x h1 => match x with | .int j => -(2 ^ 62) ≤ j ∧ j < 2 ^ 62 ∧ F (rngL 0 j.toNat) [] h1 | _ => False) E
  | .rng2 a b, σ, h, F, E => wE Γ a σ h (fun x h1 => wE Γ b σ h1 (fun y h2 => match x, y with
    | .int i, .int j => -(2 ^ 62) ≤ i ∧ i < 2 ^ 62 ∧ -(2 ^ 62) ≤ j ∧ j < 2 ^ 62 ∧ F (rngL i (j - i).toNat) [] h2
    | _, _ => False) E) E
  | .rng3 a b c, σ, h, F, E => wE Γ a σ h (fun x h1 => wE Γ b σ h1 (fun y h2 => wE Γ c σ h2 (fun z h3 => match x, y, z with
    | .int i, .int j, .int k => ∃ n, L2.RgC i j k n ∧ F (rngC i k n) [] h3
    | _, _, _ => False) E) E) E
  | .enum a, σ, h, F, E => wE Γ a σ h (fun x h1 => seqW h1 x fun xs => walkW h1 x fun _ g => F (enumL 0 xs) g h1) E
  | .enums a c, σ, h, F, E => wE Γ a σ h (fun x h1 => seqW h1 x fun xs => walkW h1 x fun _ g => F (enumL c xs) g h1) E
  | .zip a b, σ, h, F, E => wE Γ a σ h (fun x h1 => wE Γ b σ h1 (fun y h2 => seqW h2 x fun xs => seqW h2 y fun ys => walkW h2 x fun _ g => walkW h2 y fun _ g' => F (zipL xs ys) (g ++ g') h2) E) E
  | .zipn a b, σ, h, F, E => wE Γ a σ h (fun x h1 => wE Γ b σ h1 (fun y h2 => match x, y with
    | .ref i, .ref j => getL h2 i fun xs => getL h2 j fun ys => F (zipL xs ys) [(i, .lst xs), (j, .lst ys)] h2
    | .tup xs, .tup ys => F (zipL xs ys) [] h2
    | _, _ => False) E) E
  | .rvs a, σ, h, F, E => wE Γ a σ h (fun x h1 => match x with
    | .ref r => getL h1 r fun xs => F xs.reverse [(r, .lst xs)] h1
    | _ => False) E
  | .wlk a, σ, h, F, E => wE Γ a σ h (fun x h1 => walkW h1 x fun xs g => F xs g h1) E
  | .wld i, σ, h, F, _ => (match σ[i]? with
    | some (some (.ref r)) => (match h[r]? with | some (.ldc u kvs) => F (kvs.map fun p => keyV p.1) [(r, .ldc u kvs)] h | _ => False)
    | _ => False)
  | .its a, σ, h, F, E => wE Γ a σ h (fun x h1 => match x with
    | .ref r => (match h1[r]? with | some (.ldc u kvs) => F (kvs.map fun p => .tup [keyV p.1, p.2]) [(r, .ldc u kvs)] h1 | _ => False)
    | _ => False) E
  | .wlx a, σ, h, F, E => wE Γ a σ h (fun x h1 => match x with
    | .ref r => (match h1[r]? with | some (.ldc u kvs) => F (kvs.map fun p => keyV p.1) [(r, .ldc u kvs)] h1 | _ => False)
    | _ => False) E
  | _, _, _, _, _ => False
termination_by structural e => e
end
/-- a test -/
def wT (Γ : List Spec) (e : Ex) (σ : Env) (h : Hep) (F : KB) (E : KX) : Prop := wE Γ e σ h (fun x h1 => truW h1 x fun b => F b h1) E

/-! ### statements -/
inductive Sm where
  | set (t : Tg) (e : Ex) | par (i j : Nat) (a b : Ex) | par3 (i j l : Nat) (a b c : Ex) | sto (o i e : Ex)
  | augi (a i : Ex) (o : Operator) (e : Ex) | aug (i : Nat) (o : Operator) (e : Ex) | stf (o : Ex) (c f : Str) (e : Ex) | fau (o : Ex) (c f : Str) (op : Operator) (e : Ex)
  | exp (e : Ex) | ret (e : Ex) | retN
  | ife (c : Ex) (a b : List Sm) | whl (c : Ex) (b : List Sm) | for_ (t : Tg) (it : Ex) (b : List Sm)
  | rai (c : Str) | raf (c f : Str) (e : Ex) | tryk (b : List Sm) (cs : List Str) (c : Str) (i j : Nat)
  | lcs (i : Nat) (s : Sm) | lca (s : Sm)
  | brk | cnt | pss | doc | nev

structure Dz where
  nx : Env → Hep → Prop
  rt : KQ
  bk : Env → Hep → Prop := fun _ _ => False
  ct : Env → Hep → Prop := fun _ _ => False
  ex : XV → Env → Hep → Prop := fun _ _ _ => False

/-- a loop's turns -/
def wFor (g : Grd) (t : Tg) (b : Env → Hep → Dz → Prop) : List PV → Env → Hep → Dz → Prop
  | [], σ, h, D => grdOk h g ∧ D.nx σ h
  | x :: r, σ, h, D => grdOk h g ∧ match tgt t x σ with
    | some σ' => b σ' h { D with nx := fun σ2 h2 => wFor g t b r σ2 h2 D, ct := fun σ2 h2 => wFor g t b r σ2 h2 D, bk := D.nx }
    | none => False

mutual
def wS (Γ : List Spec) : Sm → Env → Hep → Dz → Prop
  | .set t e, σ, h, D => wE Γ e σ h (fun x h1 => match tgt t x σ with | some σ' => D.nx σ' h1 | none => False) fun x h1 => D.ex x σ h1
  | .par i j a b, σ, h, D => wE Γ a σ h (fun x h1 => wE Γ b σ h1 (fun y h2 => D.nx ((σ.set i (some x)).set j (some y)) h2) fun x h1 => D.ex x σ h1) fun x h1 => D.ex x σ h1
  | .par3 i j l a b c, σ, h, D => wE Γ a σ h (fun x h1 => wE Γ b σ h1 (fun y h2 => wE Γ c σ h2 (fun z h3 => D.nx (((σ.set i (some x)).set j (some y)).set l (some z)) h3) fun x h1 => D.ex x σ h1) fun x h1 => D.ex x σ h1) fun x h1 => D.ex x σ h1
  | .sto o i e, σ, h, D => wE Γ e σ h (fun v h1 => wE Γ o σ h1 (fun x h2 => wE Γ i σ h2 (fun y h3 => storeW x y v h3 fun h4 => D.nx σ h4) fun x h1 => D.ex x σ h1) fun x h1 => D.ex x σ h1) fun x h1 => D.ex x σ h1
  | .stf o c f e, σ, h, D => wE Γ e σ h (fun v h1 => wE Γ o σ h1 (fun x h2 => stfW x v c f h2 fun h3 => D.nx σ h3) fun x h1 => D.ex x σ h1) fun x h1 => D.ex x σ h1
  | .fau o c f op e, σ, h, D => wE Γ o σ h (fun x h1 => fldW h1 x c f fun v => wE Γ e σ h1 (fun y h2 => match v, y with
    | .int m, .int n => (op = .Add ∧ stfW x (.int (m + n)) c f h2 fun h3 => D.nx σ h3) ∨ (op = .Sub ∧ stfW x (.int (m - n)) c f h2 fun h3 => D.nx σ h3)
    | _, _ => False) fun x h1 => D.ex x σ h1) fun x h1 => D.ex x σ h1
  | .augi a i o e, σ, h, D => wE Γ a σ h (fun x h1 => wE Γ i σ h1 (fun y h2 => match x, y with
    | .ref r, .int j => getL h2 r fun xs => 0 ≤ j ∧ ∃ m, xs[j.toNat]? = some (.int m) ∧ wE Γ e σ h2 (fun v h3 => match v with
      | .int n => (o = .Add ∧ storeW (.ref r) (.int j) (.int (m + n)) h3 fun h4 => D.nx σ h4) ∨ (o = .Sub ∧ storeW (.ref r) (.int j) (.int (m - n)) h3 fun h4 => D.nx σ h4)
      | _ => False) fun x h1 => D.ex x σ h1
    | _, _ => False) fun x h1 => D.ex x σ h1) fun x h1 => D.ex x σ h1
  | .aug i o e, σ, h, D => (match σ[i]? with
    | some (some x) => wE Γ e σ h (fun y h1 => match x, y with
      | .int a, .int b => (o = .Add ∧ D.nx (σ.set i (some (.int (a + b)))) h1) ∨ (o = .Sub ∧ D.nx (σ.set i (some (.int (a - b)))) h1)
      | _, _ => False) fun x h1 => D.ex x σ h1
    | _ => False)
  | .exp e, σ, h, D => wE Γ e σ h (fun _ h1 => D.nx σ h1) fun x h1 => D.ex x σ h1
  | .ret e, σ, h, D => wE Γ e σ h D.rt fun x h1 => D.ex x σ h1
  | .retN, _, h, D => D.rt .non h
  | .ife c a b, σ, h, D => wE Γ c σ h (fun x h1 => truW h1 x fun t => if t = true then wSs Γ a σ h1 D else wSs Γ b σ h1 D) fun x h1 => D.ex x σ h1
  | .whl c b, σ, h, D => ∃ W : Nat → Env → Hep → Prop, (∃ m, W m σ h) ∧ ∀ m σ h, W m σ h →
      wE Γ c σ h (fun x h1 => truW h1 x fun t => if t = true then wSs Γ b σ h1 { D with nx := fun σ2 h2 => ∃ m', m' < m ∧ W m' σ2 h2, ct := fun σ2 h2 => ∃ m', m' < m ∧ W m' σ2 h2, bk := D.nx } else D.nx σ h1) fun x h1 => D.ex x σ h1
  | .for_ t it b, σ, h, D => wI Γ it σ h (fun items g h1 => wFor g t (fun σ' h' D' => wSs Γ b σ' h' D') items σ h1 D) fun x h1 => D.ex x σ h1
  | .rai c, σ, h, D => D.ex ⟨c, []⟩ σ h
  | .raf c f e, σ, h, D => wE Γ e σ h (fun v h1 => D.ex ⟨c, [(f, v)]⟩ σ h1) fun x h1 => D.ex x σ h1
  | .tryk b cs c i j, σ, h, D => wSs Γ b σ h { D with ex := fun x σ' h' => x.cls ∈ cs ∧ if subX x.cls c = true then D.nx ((σ'.set j (some (keptV x))).set i none) h' else D.ex x σ' h' }
  | .lcs i s, σ, h, D => (match σ[i]? with
    | some (some (.ref r)) => getD h r fun kvs => ∀ u : L2.HO, wS Γ s σ (h.set r (.ldc u kvs)) { nx := fun σ' h' => h'[r]? = some (.ldc u kvs) ∧ D.nx σ' (h'.set r (.dic kvs)), rt := fun x h' => h'[r]? = some (.ldc u kvs) ∧ D.rt x (h'.set r (.dic kvs)), bk := fun σ' h' => h'[r]? = some (.ldc u kvs) ∧ D.bk σ' (h'.set r (.dic kvs)), ct := fun σ' h' => h'[r]? = some (.ldc u kvs) ∧ D.ct σ' (h'.set r (.dic kvs)) }
    | _ => False)
  | .lca s, σ, h, D => ∃ (r : Nat) (kvs : List (Ky × PV)), h[r]? = some (.dic kvs) ∧ ∀ u : L2.HO, wS Γ s σ (h.set r (.ldc u kvs)) { nx := fun σ' h' => h'[r]? = some (.ldc u kvs) ∧ D.nx σ' (h'.set r (.dic kvs)), rt := fun x h' => h'[r]? = some (.ldc u kvs) ∧ D.rt x (h'.set r (.dic kvs)), bk := fun σ' h' => h'[r]? = some (.ldc u kvs) ∧ D.bk σ' (h'.set r (.dic kvs)), ct := fun σ' h' => h'[r]? = some (.ldc u kvs) ∧ D.ct σ' (h'.set r (.dic kvs)) }
  | .brk, σ, h, D => D.bk σ h
  | .cnt, σ, h, D => D.ct σ h
  | .pss, σ, h, D => D.nx σ h
  | .doc, σ, h, D => D.nx σ h
  | .nev, _, _, _ => False
termination_by structural s => s
def wSs (Γ : List Spec) : List Sm → Env → Hep → Dz → Prop
  | [], σ, h, D => D.nx σ h
  | s :: r, σ, h, D => wS Γ s σ h { D with nx := fun σ' h' => wSs Γ r σ' h' D }
termination_by structural s => s
end
/-! ### built-ins and methods at known arguments (simp is given these, not the functions' own equations: the last of those is great) -/
theorem biW_1 {s : Str} {h : Hep} {F : KQ} : biW .len [.str s] h F = (s.length ≤ big ∧ F (.int s.length) h) := rfl
theorem biW_2 {ys : List PV} {h : Hep} {F : KQ} : biW .len [.tup ys] h F = (F (.int ys.length) h) := rfl
theorem biW_3 {ys : List PV} {h : Hep} {F : KQ} : biW .len [.ils ys] h F = (F (.int ys.length) h) := rfl
theorem biW_4 {ys : List PV} {h : Hep} {F : KQ} : biW .len [.itp ys] h F = (F (.int ys.length) h) := rfl
theorem biW_5 {r : Nat} {h : Hep} {F : KQ} : biW .len [.ref r] h F = (getL h r fun ys => F (.int ys.length) h) := rfl
theorem biW_6 {i : Int} {j : Int} {h : Hep} {F : KQ} : biW .max2 [.int i, .int j] h F = (F (.int (max i j)) h) := rfl
theorem biW_7 {i : Int} {j : Int} {h : Hep} {F : KQ} : biW .min2 [.int i, .int j] h F = (F (.int (min i j)) h) := rfl
theorem biW_8 {i : Int} {j : Int} {k : Int} {h : Hep} {F : KQ} : biW .max3 [.int i, .int j, .int k] h F = (F (.int (max (max i j) k)) h) := rfl
theorem biW_9 {i : Int} {j : Int} {k : Int} {h : Hep} {F : KQ} : biW .min3 [.int i, .int j, .int k] h F = (F (.int (min (min i j) k)) h) := rfl
theorem biW_10 {x : PV} {h : Hep} {F : KQ} : biW .minp [x] h F = (listW h x fun ys => ∃ d ds, datAll (dat h 59) ys = some (d :: ds) ∧ PySem.W.AlikeAll (d :: ds) ∧ PyData.depthAll (d :: ds) ≤ 60 ∧ ∀ (i : Nat) (v : PV), ys[i]? = some v → (d :: ds)[i]? = some (PySem.W.minD d ds) → F v h) := rfl
theorem biW_11 {x : PV} {h : Hep} {F : KQ} : biW .sortedk [x] h F = ((match x with
    | .ref r => getD h r fun kvs => kvs ≠ [] ∧ ∃ ks : List Int, kvs.map (·.1) = ks.map (fun i => Ky.one (.inl i)) ∧ ks.length < 64 ∧ ∀ ms : List Int, ms.Perm ks → ms.Pairwise (· ≤ ·) → F (.ref h.length) (h ++ [.lst (ms.map PV.int)])
    | _ => False)) := rfl
theorem biW_12 {x : PV} {h : Hep} {F : KQ} : biW .sum [x] h F = (listW h x fun ys => ∃ ns, intsOf ys = some ns ∧ F (.int ns.sum) h) := rfl
theorem biW_13 {x : PV} {h : Hep} {F : KQ} : biW .all [x] h F = (listW h x fun ys => ∃ bs, boolsOf ys = some bs ∧ F (.bl (bs.all id)) h) := rfl
theorem biW_14 {x : PV} {h : Hep} {F : KQ} : biW .any [x] h F = (listW h x fun ys => ∃ bs, boolsOf ys = some bs ∧ F (.bl (bs.any id)) h) := rfl
theorem biW_15 {x : PV} {h : Hep} {F : KQ} : biW .list [x] h F = (seqW h x fun ys => F (.ref h.length) (h ++ [.lst ys])) := rfl
theorem biW_16 {ys : List PV} {h : Hep} {F : KQ} : biW .tuple [.tup ys] h F = (F (.tup ys) h) := rfl
theorem biW_17 {ys : List PV} {h : Hep} {F : KQ} : biW .tuple [.itp ys] h F = (F (.itp ys) h) := rfl
theorem biW_18 {r : Nat} {h : Hep} {F : KQ} : biW .tuple [.ref r] h F = (listW h (.ref r) fun zs => F (.tup zs) h) := rfl
theorem biW_19 {ys : List PV} {h : Hep} {F : KQ} : biW .tuple [.ils ys] h F = (listW h (.ils ys) fun zs => F (.tup zs) h) := rfl
theorem biW_20 {i : Int} {j : Int} {h : Hep} {F : KQ} : biW .divmod [.int i, .int j] h F = (0 < j ∧ j < 1073741824 ∧ F (.tup [.int (i / j), .int (i % j)]) h) := rfl
theorem biW_21 {n : Int} {h : Hep} {F : KQ} : biW .tuplerange [.int n] h F = (-(2 ^ 62) ≤ n ∧ n ≤ big ∧ F (.tup ((List.range n.toNat).map fun (i : Nat) => PV.int i)) h) := rfl
theorem biW_22 {n : Int} {h : Hep} {F : KQ} : biW .listrange [.int n] h F = (-(2 ^ 62) ≤ n ∧ n ≤ big ∧ F (.ref h.length) (h ++ [.lst ((List.range n.toNat).map fun (i : Nat) => PV.int i)])) := rfl
theorem biW_23 {a : Int} {b : Int} {h : Hep} {F : KQ} : biW .listrange [.int a, .int b] h F = (-(2 ^ 62) ≤ a ∧ a < 2 ^ 62 ∧ -(2 ^ 62) ≤ b ∧ b < 2 ^ 62 ∧ b - a ≤ big ∧ F (.ref h.length) (h ++ [.lst ((List.range (b - a).toNat).map fun (i : Nat) => PV.int (a + i))])) := rfl
theorem biW_24 {x : PV} {h : Hep} {F : KQ} : biW .maxl [x] h F = (seqW h x fun ys => ∃ ns, intsOf ys = some ns ∧ ns ≠ [] ∧ F (.int (maxL ns)) h) := rfl
theorem biW_25 {x : PV} {h : Hep} {F : KQ} : biW .minl [x] h F = (seqW h x fun ys => ∃ ns, intsOf ys = some ns ∧ ns ≠ [] ∧ F (.int (minL ns)) h) := rfl
theorem biW_26 {x : PV} {h : Hep} {F : KQ} : biW .lenset [x] h F = (listW h x fun ys => ∃ ns, intsOf ys = some ns ∧ ns.length ≤ 4000 ∧ ns.Nodup ∧ F (.int ns.length) h) := rfl
theorem biW_27 {x : PV} {h : Hep} {F : KQ} : biW .sorted [x] h F = (seqW h x fun ys => ∃ ds, datAll (dat h 59) ys = some ds ∧ PySem.W.AllAlike ds ∧ PySem.W.Sortable ds ∧ F (.ref h.length) (h ++ [.lst (sortZ ys ds)])) := rfl
theorem biW_28 {x : PV} {h : Hep} {F : KQ} : biW .sortedset [x] h F = (seqW h x fun ys => ∃ ns, intsOf ys = some ns ∧ ns.length < 64 ∧ ∀ ms : List Int, ms.Pairwise (· < ·) → (∀ k, k ∈ ms ↔ k ∈ ns) → F (.ref h.length) (h ++ [.lst (ms.map PV.int)])) := rfl
theorem biW_29 {x : PV} {h : Hep} {F : KQ} : biW .sortedsetp [x] h F = ((match x with
    | .ref r => getL h r fun ys => ∃ L, ipairs ys = some L ∧ L.length ≤ 1200 ∧ ∀ (zs : List PV) (ms : List (Int × Int)), ipairs zs = some ms → (∀ z ∈ zs, z ∈ ys) → (∀ p, p ∈ ms ↔ p ∈ L) → ms.Pairwise ltT → F (.ref h.length) (h ++ [.lst zs])
    | _ => False)) := rfl
theorem biW_30 {x : PV} {h : Hep} {F : KQ} : biW .dict [x] h F = (pairW h x fun ys => ∃ ps, pairsOf ys = some ps ∧ F (.ref h.length) (h ++ [.dic (dputs [] ps)])) := rfl
theorem biW_31 {x : PV} {h : Hep} {F : KQ} : biW .dictenum [x] h F = (seqW h x fun ys => F (.ref h.length) (h ++ [.dic (dputs [] (enumA 0 ys))])) := rfl
theorem biW_32 {x : PV} {h : Hep} {F : KQ} : biW .xtuple [x] h F = (xtW x h F) := rfl
theorem biW_33 {x : PV} {h : Hep} {F : KQ} : biW .lenkeys [x] h F = (seqW h x fun ys => ∃ ks, keyAtoms ys = some ks ∧ ks.length ≤ 4000 ∧ F (.int (firsts ks).length) h) := rfl
theorem biW_34 {i : Int} {h : Hep} {F : KQ} : biW .int [.int i] h F = (F (.int i) h) := rfl
theorem biW_35 {x : PV} {h : Hep} {F : KQ} : biW .listd [x] h F = ((match x with
    | .ref r => getD h r fun kvs => F (.ref h.length) (h ++ [.lst (kvs.map fun p => keyV p.1)])
    | _ => False)) := rfl
theorem biW_36 {x : PV} {h : Hep} {F : KQ} : biW .listitems [x] h F = ((match x with
    | .ref r => getD h r fun kvs => F (.ref h.length) (h ++ [.lst (kvs.map fun p => .tup [keyV p.1, p.2])])
    | _ => False)) := rfl
theorem biW_37 {x : PV} {h : Hep} {F : KQ} : biW .sorteditems [x] h F = ((match x with
    | .ref r => getD h r fun kvs => ∃ ds, datAll (dat h 59) (kvs.map fun p => .tup [keyV p.1, p.2]) = some ds ∧ PySem.W.AllAlike ds ∧ PySem.W.Sortable ds ∧ F (.ref h.length) (h ++ [.lst (sortZ (kvs.map fun p => .tup [keyV p.1, p.2]) ds)])
    | _ => False)) := rfl
theorem biW_38 {x : PV} {y : PV} {h : Hep} {F : KQ} : biW .listzip [x, y] h F = (seqW h x fun xs => seqW h y fun ys => F (.ref h.length) (h ++ [.lst (zipL xs ys)])) := rfl
theorem biW_39 {i : Int} {h : Hep} {F : KQ} : biW .abs [.int i] h F = (F (.int (if i < 0 then -i else i)) h) := rfl
theorem biW_40 {i : Int} {h : Hep} {F : KQ} : biW .str1 [.int i] h F = (i.natAbs.log2 < 1920 ∧ F (.str (numS i)) h) := rfl
theorem biW_41 {s : Str} {h : Hep} {F : KQ} : biW .str1 [.str s] h F = (F (.str s) h) := rfl
theorem biW_42 {x : PV} {h : Hep} {F : KQ} : biW .dictp [x] h F = (listW h x fun ys => ∃ ps, mpairs ys = some ps ∧ F (.ref h.length) (h ++ [.dic (dputM [] ps)])) := rfl
theorem biW_43 {b : Bool} {h : Hep} {F : KQ} : biW .int [.bl b] h F = (F (.int (if b then 1 else 0)) h) := rfl
theorem biW_44 {s : Str} {h : Hep} {F : KQ} : biW .int [.str s] h F = (∃ n, PySem.intText? s = some n ∧ s.length ≤ 640 ∧ F (.int n) h) := rfl
theorem miW_1 {r : Nat} {v : PV} {h : Hep} {F : KQ} : miW .append (.ref r) [v] h F = (getL h r fun ys => ys.length < big ∧ F .non (h.set r (.lst (ys ++ [v])))) := rfl
theorem miW_2 {r : Nat} {h : Hep} {F : KQ} : miW .pop (.ref r) [] h F = (getL h r fun ys => ∃ v, ys[ys.length - 1]? = some v ∧ F v (h.set r (.lst ys.dropLast))) := rfl
theorem miW_3 {r : Nat} {i : Int} {h : Hep} {F : KQ} : miW .popAt (.ref r) [.int i] h F = (getL h r fun ys => ∃ j v, -(2 ^ 63) ≤ i ∧ i < 2 ^ 63 ∧ ixN ys.length i = some j ∧ ys[j]? = some v ∧ F v (h.set r (.lst (ys.eraseIdx j)))) := rfl
theorem miW_4 {r : Nat} {v : PV} {h : Hep} {F : KQ} : miW .index (.ref r) [v] h F = (getL h r fun ys => ∃ d ds j z, dat h 59 v = some d ∧ SeqAt.shaped d = true ∧ datAll (dat h 59) ys = some ds ∧ PyData.canLayAll0 ds = true ∧ ds[j]? = some z ∧ PyData.eqv z d = true ∧
      (∀ (m : Nat) (z' : PyData), m < j → ds[m]? = some z' → PyData.eqv z' d = false) ∧ F (.int (j : Nat)) h) := rfl
theorem miW_5 {r : Nat} {i : Int} {h : Hep} {F : KQ} : miW .remove (.ref r) [.int i] h F = (getL h r fun ys => ∃ ns j, intsOf ys = some ns ∧ ns[j]? = some i ∧ (∀ m : Nat, m < j → ns[m]? ≠ some i) ∧ F .non (h.set r (.lst (ys.eraseIdx j)))) := rfl
theorem miW_6 {r : Nat} {q : Nat} {h : Hep} {F : KQ} : miW .extend (.ref r) [.ref q] h F = (getL h r fun ys => getL h q fun zs => ys.length + zs.length ≤ big ∧ F .non (h.set r (.lst (ys ++ zs)))) := rfl
theorem miW_7 {r : Nat} {zs : List PV} {h : Hep} {F : KQ} : miW .extend (.ref r) [.tup zs] h F = (getL h r fun ys => ys.length + zs.length ≤ big ∧ F .non (h.set r (.lst (ys ++ zs)))) := rfl
theorem miW_8 {r : Nat} {zs : List PV} {h : Hep} {F : KQ} : miW .extend (.ref r) [.itp zs] h F = (getL h r fun ys => ys.length + zs.length ≤ big ∧ F .non (h.set r (.lst (ys ++ zs)))) := rfl
theorem miW_9 {r : Nat} {i : Int} {v : PV} {h : Hep} {F : KQ} : miW .insert (.ref r) [.int i, v] h F = (getL h r fun ys => ys.length < big ∧ 0 ≤ i ∧ i < 2 ^ 63 ∧ F .non (h.set r (.lst (ys.take i.toNat ++ [v] ++ ys.drop i.toNat)))) := rfl
theorem miW_10 {r : Nat} {h : Hep} {F : KQ} : miW .clear (.ref r) [] h F = (getL h r fun _ => F .non (h.set r (.lst []))) := rfl
theorem miW_11 {r : Nat} {v : PV} {h : Hep} {F : KQ} : miW .count (.ref r) [v] h F = (getL h r fun ys => ∃ d ds, dat h 59 v = some d ∧ SeqAt.shaped d = true ∧ datAll (dat h 59) ys = some ds ∧ PyData.canLayAll0 ds = true ∧ F (.int ((ds.countP fun z => PyData.eqv z d : Nat) : Int)) h) := rfl
end Z

/-! Zh: rules of the hand layer's kind that it lacks: chains of three, sorted over data, sorted(set(..)) of whole numbers, min and max with default=. -/
namespace Zh
open PySem PySem.Spec PyProof.Rows L2

section
variable {X : Cx} {a b c d : Expr} {ta tb tc td : TE} {pos : Pos}
/-! ### chains of three -/
/-! ### sorted over data -/
open PySem.W (EachIs AllAlike Sortable dataLe)
theorem each_vals {vs : List V} {us : List Value} (r : Vals vs us) : ∀ {ds : List PyData}, vs.length = ds.length → EachIs (fun u (p : V × PyData) => RelV p.1 u) us (vs.zip ds) := by
  induction r with
  | nil => intro ds h; exact .nil
  | cons r t ih =>
    intro ds h
    cases ds with
    | nil => cases h
    | cons d ds => exact .cons r (ih (by simpa using h))
theorem vals_each : ∀ {us : List Value} {ps : List (V × PyData)}, EachIs (fun u (p : V × PyData) => RelV p.1 u) us ps → Vals (ps.map (·.1)) us
  | _, _, .nil => .nil
  | _, _, .cons r t => .cons r (vals_each t)
theorem each_reads {X : Cx} {pins : List (Addr × Obj)} {σ : L2.St} {H : Hp} {s : Shared} (I : Inv X pins σ H s) : ∀ {vs : List V} {us : List Value} {ds : List PyData}, Vals vs us → DpAll X.K H vs ds → EachIs (fun u (p : V × PyData) => ∃ as, Reads s.heap u p.2 as) us (vs.zip ds)
  | _, _, _, .nil, .nil => .nil
  | _, _, _, .cons r t, .cons d ds => .cons (Dp.reads I _ _ _ d r) (each_reads I t ds)
theorem dpAll_len {K : PySem.W.Frag} {H : Hp} : ∀ {vs : List V} {ds : List PyData}, DpAll K H vs ds → vs.length = ds.length
  | _, _, .nil => rfl
  | _, _, .cons _ t => by rw [List.length_cons, List.length_cons, dpAll_len t]
theorem zip_snd {α β : Type} : ∀ {as : List α} {bs : List β}, as.length = bs.length → (as.zip bs).map (·.2) = bs
  | [], [], _ => rfl
  | a :: as, b :: bs, h => by rw [List.zip_cons_cons, List.map_cons, zip_snd (by simpa using h)]
def sortV (ps : List (V × PyData)) : List V := (ps.mergeSort (dataLe false fun p => p.2)).map (·.1)
def rSortedD (K : PySem.W.Frag) : List V → Hp → VK → Prop := fun vs H Q => ∃ (a : Addr) (xs : List V) (ds : List PyData), vs = [V.ref a] ∧ SqL K H a xs ∧ DpAll K H xs ds ∧ AllAlike ds ∧ Sortable ds ∧ (∀ d ∈ ds, d.depth ≤ 60) ∧
  ∀ p, H p = none → Q (.ref p) (upd H p (.lst (sortV (xs.zip ds))))
theorem cr_sortedD {X : Cx} (hu : X.A.units + 65 < cLine) : CallR X (.builtin "sorted") (rSortedD X.K) := by
  intro pins s σ H vs us Q I r h
  obtain ⟨a, xs, ds, rfl, hs, hd, al, so, dp, q⟩ := h
  obtain ⟨its, rv, hl, hz⟩ := I.list hs
  rw [Vals.ref1 r]
  have hxd := dpAll_len hd
  have hlen : (sortV (xs.zip ds)).length = xs.length := by
    unfold sortV
    rw [List.length_map, List.length_mergeSort, List.length_zip, ← hxd, Nat.min_self]
  refine PySem.W.sorted_data (vs := its) (β := V × PyData) (R := fun u p => RelV p.1 u) (enc := fun p => p.2) (bs := xs.zip ds) hl.isList (each_vals rv hxd) (each_reads I rv hd) (by rw [zip_snd hxd]; exact al) (by rw [zip_snd hxd]; exact so) (by rw [List.length_zip, ← hxd, Nat.min_self]; exact hz)
    (fun b hb => ?_) fun out ho eo => ?_
  · have := dp b.2 (List.of_mem_zip (show (b.1, b.2) ∈ xs.zip ds from hb)).2
    omega
  · obtain ⟨ep, he'⟩ := PyProof.Rows.sortedAll_at s.heap its out.toArray
    exact ⟨.ref _, upd H (s.heap.objs.size + 1) (.lst (sortV (xs.zip ds))), I.laid (t' := s.toks) (fun _ _ => PyProof.Rows.sortedAll_old) (Nat.le_succ _) ⟨by rw [hlen]; exact hz, out, ep, vals_each eo, he'⟩, rfl, q _ (I.hok.fresh (Nat.le_succ _))⟩

/-! ### min, max with default= -/
open PySem.W (AlikeAll minD maxD alike_unique)
end
/-! ### sorted(set(..)) of whole numbers -/
section
variable {P : Program} {w : World} {A : Around} {E : Value → Shared → Prop} {s : Shared}
theorem SetR.to {h : Heap} {a : Addr} {S S' : Int → Bool} {n n' : Nat} (R : SetR w h a S n) (e : ∀ k, S' k = S k) (e2 : n' = n) : SetR w h a S' n' := by
  subst e2; exact R.congr e
end
section
variable {X : Cx}
end
end Zh

/-! Zh2: more rules of the hand layer's kind: tuples known whole, dict(..) of them, len(set(..)) of keys. -/
namespace Zh
open PySem PySem.Spec PyProof.Rows L2

/-- a tuple known whole -/
def Whole (K : PySem.W.Frag) (H : Hp) (a : Addr) (xs : List V) : Prop :=
  (∃ o : Obj, o.dict = none ∧ H a = some (.frz o (.tup xs))) ∨
    ∃ (o : Obj) (its : Array Value) (n : Nat), o.dict = none ∧ K.lookup a = some o ∧ o.cls = .type "tuple" ∧ o.data = .seq its n ∧ its.size ≤ sizeLine ∧ Vals xs its.toList
theorem Whole.sq {K : PySem.W.Frag} {H : Hp} {a : Addr} {xs : List V} (w : Whole K H a xs) : SqT K H a xs := by
  rcases w with ⟨o, _, e⟩ | ⟨o, its, n, _, r⟩
  · exact .inl (.inr ⟨o, e⟩)
  · exact .inr ⟨o, its, n, r⟩
section
variable {X : Cx} {pins : List (Addr × Obj)} {σ : L2.St} {H : Hp} {s : Shared}
theorem pe_tupW {x1 : Nat} {es : List Expr} {t : TA} {pos : Pos} (h : PA X es t) : PE X (.Tuple es x1 pos) (fun σ H Q => t σ H fun xs H' => xs.length ≤ sizeLine ∧ ∀ p o, o.dict = none → H' p = none → Q (.ref p) (upd H' p (.frz o (.tup xs)))) := by
  refine ⟨fun pins s σ H Q I hq => wpAny_Tuple_spliced (thn (h.run pos pins s σ H _ I hq) fun us s1 ⟨xs, H1, I1, r, z, q⟩ => ?_)⟩
  refine ⟨by rw [← r.length]; exact z, .ref s1.heap.objs.size, _, I1.laid (o := .frz { cls := .type "tuple", data := .seq us.toArray } (.tup xs)) (t' := s1.toks) (fun b u e => Heap.get?_push_of_some _ e) (Nat.le_refl _) ?_, rfl, q _ _ rfl (I1.hok.fresh (Nat.le_refl _))⟩
  exact ⟨Heap.get?_push_size _ rfl, z, us, r, _, Heap.get?_push_size _ rfl, rfl, _, rfl⟩
/-! ### dict(..) of a list of pairs, of a tuple of pairs that is known whole -/
end
/-! ### set(..) of a list of keys, whichever come twice -/
section
variable {κ : Type} [DecidableEq κ]
/-- each once, where it comes first -/
def firsts (xs : List κ) : List κ := xs.foldl (fun acc k => if k ∈ acc then acc else acc ++ [k]) []
theorem firsts_snoc (xs : List κ) (k : κ) : firsts (xs ++ [k]) = if k ∈ firsts xs then firsts xs else firsts xs ++ [k] := by
  unfold firsts; rw [List.foldl_append]; rfl
theorem firsts_le (xs : List κ) : (firsts xs).length ≤ xs.length := by
  have gen : ∀ (xs acc : List κ), (xs.foldl (fun acc k => if k ∈ acc then acc else acc ++ [k]) acc).length ≤ acc.length + xs.length := by
    intro xs
    induction xs with
    | nil => intro acc; exact Nat.le_refl _
    | cons x xs ih =>
      intro acc
      rw [List.foldl_cons]
      have h := ih (if x ∈ acc then acc else acc ++ [x])
      rw [List.length_cons]
      split at h
      · rename_i hx; rw [if_pos hx]; omega
      · rename_i hx
        rw [List.length_append, List.length_singleton] at h
        rw [if_neg hx]; omega
  have h := gen xs []
  rw [List.length_nil, Nat.zero_add] at h
  exact h
def inFirst (ks : List κ) (k : κ) : Bool := decide (k ∈ firsts ks)
theorem inFirst_snoc (ks : List κ) (k j : κ) : inFirst (ks ++ [k]) j = (inFirst ks j || decide (j = k)) := by
  unfold inFirst
  rw [firsts_snoc]
  by_cases h : k ∈ firsts ks
  · rw [if_pos h]
    by_cases e : j = k
    · subst e; simp [h]
    · simp [e]
  · rw [if_neg h]
    by_cases e : j = k <;> simp [e]
theorem firsts_snoc_len (ks : List κ) (k : κ) : (firsts (ks ++ [k])).length = if inFirst ks k = true then (firsts ks).length else (firsts ks).length + 1 := by
  rw [firsts_snoc]
  unfold inFirst
  by_cases h : k ∈ firsts ks <;> simp [h]
end
section
variable {P : Program} {w : World} {A : Around} {R : Result → Shared → Prop} {I : Addr} {fp wr : List Addr} {G : Array GenState → Array GenState → Prop} {n : Nat} {Pv : Nat → Value → Prop} {St : Nat → Shared → Prop}
theorem keys_loop (Wk : WalksS P w A.in1 I fp wr G n Pv St) (S : Addr) (off : S ∉ fp) (ks : List Key) (hl : ks.length = n) (hv : ∀ i v, Pv i v → ∃ k, ks[i]? = some k ∧ RelV (kV k) v) (room : n + 1 < scanBound) :
    ∀ (m i : Nat) (s : Shared), n - i = m → i ≤ n → St i s → s.heap.SetOf (mixKind P w) S (inFirst (ks.take i)) (firsts (ks.take i)).length →
      (∀ t, Moved (S :: wr) G s t → t.heap.SetOf (mixKind P w) S (inFirst ks) (firsts ks).length → R (.ok (.ret .none)) t) → codeAny (model P w) A (.builtin "set.update.loop" ⟨[.ref S, .ref I], []⟩) R s := by
  have offw : S ∉ wr := fun z => off (Wk.sub S z)
  have more : ∀ b, b ∈ wr → b ∈ S :: wr := fun b z => List.mem_cons_of_mem S z
  intro m
  induction m with
  | zero =>
    intro i s hm hi st hS out
    obtain rfl : i = n := by omega
    refine codeAny_builtin PyProof.Rows.F.entry_set_update_loop ?_
    rw [Around.under_plainId PyProof.Rows.F.plain_set_update_loop _]
    refine wpAny_bind (m := pyNext (.ref I)) (Wk.done s _ _ st fun t mv => wpAny_pure (out t (mv.mono more) ?_))
    obtain ⟨o, es, ep, tb, ho, r⟩ := hS
    rw [List.take_of_length_le (by omega)] at r
    exact ⟨o, es, ep, tb, mv.heap S o offw ho, r⟩
  | succ m ih =>
    intro i s hm hi st hS out
    have lt : i < n := by omega
    refine codeAny_builtin PyProof.Rows.F.entry_set_update_loop ?_
    rw [Around.under_plainId PyProof.Rows.F.plain_set_update_loop _]
    refine wpAny_bind (m := pyNext (.ref I)) (Wk.item i s _ _ lt st fun v t hP st' mv => ?_)
    obtain ⟨k, gk, rk⟩ := hv i v hP
    have hS1 : t.heap.SetOf (mixKind P w) S (inFirst (ks.take i)) (firsts (ks.take i)).length := by
      obtain ⟨o, es, ep, tb, ho, r⟩ := hS
      exact ⟨o, es, ep, tb, mv.heap S o offw ho, r⟩
    have tk : ks.take (i + 1) = ks.take i ++ [k] := by rw [List.take_add_one, gk]; rfl
    have rm : (firsts (ks.take i)).length + 1 < scanBound := by
      have h := firsts_le (ks.take i)
      rw [List.length_take] at h
      omega
    refine wpAny_bind (m := holding [v] (setAdd S v)) (wpAny_holding ?_)
    unfold setAdd
    refine wpAny_holding (wpAny_bind ((mixKind P w).pyHash (k := k) (kV_is rk) ?_))
    refine wpAny_setAddHashed_of (knd := mixKind P w) (s := { t with toks := t.toks + 1 }) (kV_is rk) (key_scan rk) hS1 rm fun h' sb hS2 => ?_
    have hS3 : h'.SetOf (mixKind P w) S (inFirst (ks.take (i + 1))) (firsts (ks.take (i + 1))).length := by
      rw [tk, firsts_snoc_len]
      have e : inFirst (ks.take i ++ [k]) = fun j => inFirst (ks.take i) j || decide (j = k) := funext (inFirst_snoc _ k)
      rw [e]
      exact hS2
    refine wpAny_pure ⟨plainId_quiet PyProof.Rows.F.plain_set_update_loop _, ih (i + 1) _ (by omega) lt (Wk.frame _ t _ _ st' (Nat.le_succ _) fun b hb o e => ?_) hS3 fun u mu hS4 => out u (Moved.trans Wk.gtrans ((mv.mono more).then_heap (Nat.le_succ _) fun b o hb e => ?_) mu) hS4⟩
    · have nb : b ≠ S := fun z => off (z ▸ hb)
      rw [sb.2 b nb]; exact e
    · have nb : b ≠ S := fun z => hb (z ▸ List.mem_cons_self)
      rw [sb.2 b nb]; exact e
end
section
variable {P : Program} {w : World} {A : Around} {E : Value → Shared → Prop} {s : Shared}
theorem keys_init {S l : Addr} {led : Bool} {items : Array Value} {ks : List Key} {Q : Shared → Prop} (hh : A.handled = none) (hset : s.heap.get? S = some { cls := .type "set", dict := none, data := .set #[] 0 (.fresh 0 0 led) }) (hne : l ≠ S) (hl : s.heap.IsList l items) (hz : ks.length = items.size) (hv : ∀ (i : Nat) v, items[i]? = some v → ∃ k, ks[i]? = some k ∧ RelV (kV k) v) (room : ks.length + 1 < scanBound)
    (out : ∀ h' tk, h'.SetOf (mixKind P w) S (inFirst ks) (firsts ks).length → (∀ b o, b ≠ S → s.heap.get? b = some o → h'.get? b = some o) → Q { s with heap := h', toks := tk }) :
    codeAny (model P w) A (.call (.builtin "set.__init__") ⟨[.ref S, .ref l], []⟩) (wants (fun r t => r = .none ∧ Q t) E) s := by
  refine codeAny_call_builtin PySem.F.called_set.init.plain PySem.F.entry_set_init (check_set_init_1 ⟨_, hset, rfl⟩ ?_)
  obtain ⟨o, ho, hc, k, hd⟩ := hl
  have e1 := PySem.F.sub_list_set
  have e2 := PySem.F.sub_list_frozenset
  have e3 : (Value.type "list" == Value.type "dict") = false := by decide
  have hlt : s.TypeIs (.ref l) "list" := ⟨o, ho, hc⟩
  have hil : s.heap.IsList l items := ⟨o, ho, hc, k, hd⟩
  obtain ⟨c, dc, dt, sl⟩ := o
  simp only at hc hd
  subst hc hd
  obtain ⟨hp, g, dr, tk0, os⟩ := s
  unfold Builtin.«set.__init__» noKeywords Builtin.Frozenset.updateFrom
  generalize hPI : pyIter = PI
  wp_walk
  subst hPI
  refine wpAny_pyIter_list hil ?_
  refine wpAny_bind (wpAny_runValue ?_)
  have hll : l < hp.objs.size := Heap.lt_size ho
  have h3 : A.in1.in1.handled = none := by simp [hh]
  have nI : l ≠ hp.objs.size := Nat.ne_of_lt hll
  have nS : S ≠ hp.objs.size := Nat.ne_of_lt (Heap.lt_size hset)
  refine keys_loop ((Walks.list h3 hp.objs.size l nI items).toS) S (by simp only [List.mem_cons, List.mem_singleton, List.not_mem_nil, or_false, not_or]; exact ⟨nS, fun z => hne z.symm⟩) ks hz (fun i v h => hv i v h) (by omega) (items.size - 0) 0 _ (by omega) (Nat.zero_le _) ?_ ?_ fun t mv hS' => ?_
  · exact ⟨⟨_, Heap.get?_push_size _ rfl, rfl, rfl⟩, hil.push _⟩
  · rw [show inFirst (ks.take 0) = fun _ => false from funext fun j => by rw [List.take_zero]; rfl, show (firsts (ks.take 0)).length = 0 from by rw [List.take_zero]; rfl]
    exact ⟨_, #[], 0, _, Heap.get?_push_of_some _ hset, ⟨rfl, rfl, rfl⟩, rfl, fun e he => by simp at he, fun k => by simp, by decide, by rfl, rfl⟩
  · obtain ⟨h', g', d', tk', os'⟩ := t
    obtain rfl : g' = g := mv.gens
    obtain rfl : d' = dr := mv.drawn
    obtain rfl : os' = os := mv.os
    refine wpAny_pure (wpAny_pure ⟨rfl, out h' tk' hS' fun b o nb e => mv.heap b o ?_ (Heap.get?_push_of_some _ e)⟩)
    simp only [List.mem_cons, List.mem_singleton, List.not_mem_nil, or_false, not_or]
    exact ⟨nb, Nat.ne_of_lt (Heap.lt_size e)⟩
theorem call_keys {l : Addr} {items : Array Value} {ks : List Key} {Q : Value → Shared → Prop} (hh : A.handled = none) (hl : s.heap.IsList l items) (hz : ks.length = items.size) (hv : ∀ (i : Nat) v, items[i]? = some v → ∃ k, ks[i]? = some k ∧ RelV (kV k) v) (room : ks.length + 1 < scanBound)
    (out : ∀ h' tk, h'.SetOf (mixKind P w) s.heap.objs.size (inFirst ks) (firsts ks).length → (∀ b o, s.heap.get? b = some o → h'.get? b = some o) → Q (.ref s.heap.objs.size) { s with heap := h', toks := tk }) :
    wpAny (model P w) A (call (.type "set") [.ref l]) Q E s := by
  obtain ⟨c, tl, k0⟩ := PySem.F.called_set.mro
  have k1 := PySem.F.called_set.made
  have k2 := PySem.F.called_set.sub
  refine wpAny_call (codeAny_of_tree ?_)
  show wpAny (model P w) _ (callAny (.type "set") _) _ _ _
  refine wpAny_pure ⟨Code.quiet_builtin _ (by decide +kernel), codeAny_builtin PySem.F.entry_type_call ?_⟩
  rw [Around.under_plain (weight_type_call_type "set" [.ref l] []) rfl]
  have k3 := PySem.F.called_set.notType
  have k4 := PySem.F.called_set.canCreate
  have k5 := PySem.F.typeCall_set_1 (.ref l)
  repeat (any_goals (first | assumption | wp_step))
  refine codeAny_mono (code_set_new_1 (.ref l) (E := E) (Q₁ := fun v t => ∃ led : Bool, v = .ref s.heap.objs.size ∧ t = { s with heap := s.heap.push { cls := .type "set", dict := none, data := .set #[] 0 (.fresh 0 0 led) } }) fun led => ⟨led, rfl, rfl⟩) fun r t hr => ?_
  match r, hr with
  | .error e, hr => exact hr
  | .ok (.ret v), ⟨led, hv1, hv2⟩ =>
    subst hv1 hv2
    have hset : (s.heap.push { cls := .type "set", dict := none, data := .set #[] 0 (.fresh 0 0 led) }).get? s.heap.objs.size = some { cls := .type "set", dict := none, data := .set #[] 0 (.fresh 0 0 led) } := Heap.get?_push_size _ rfl
    have hT : Shared.TypeIs { s with heap := s.heap.push { cls := .type "set", dict := none, data := .set #[] 0 (.fresh 0 0 led) } } (.ref s.heap.objs.size) "set" := ⟨_, hset, rfl⟩
    have k6 := PySem.F.called_set.init.lookup
    have k7 := PySem.F.called_set.init.bind (.ref s.heap.objs.size)
    repeat (any_goals (first | assumption | wp_step))
    have ll : l < s.heap.objs.size := let ⟨o, ho, _⟩ := hl; Heap.lt_size ho
    refine codeAny_mono (keys_init (E := E) (Q := fun t => Q (.ref s.heap.objs.size) t) (by simp [hh]) hset (Nat.ne_of_lt ll) (hl.push _) hz hv room fun h' tk hS k => out h' tk hS fun b o e => k b o (Nat.ne_of_lt (Heap.lt_size e)) (Heap.get?_push_of_some _ e)) fun r t hr => ?_
    match r, hr with
    | .error e, hr => exact hr
    | .ok (.ret v), ⟨e, q⟩ =>
      subst e
      repeat (any_goals (first | assumption | wp_step))
end
section
variable {X : Cx}
def rSetKeys (P : Program) (w : World) (K : PySem.W.Frag) : List V → Hp → VK → Prop := fun vs H Q => ∃ (a : Addr) (ks : List Key), vs = [V.ref a] ∧ SqL K H a (ks.map kV) ∧ ks.length + 1 < scanBound ∧ ∀ p, H p = none → Q (.ref p) (upd H p (SetK P w p (inFirst ks) (firsts ks).length))
theorem cr_setKeys (hc : X.calm = true) : CallR X (.type "set") (rSetKeys X.prog X.w X.K) := by
  intro pins s σ H vs us Q I r ⟨a, ks, ev, hs, room, q⟩
  subst ev
  obtain ⟨its, rv, pl, hz⟩ := I.list hs
  rw [Vals.ref1 r]
  have ln : (ks.map kV).length = its.length := rv.length
  rw [List.length_map] at ln
  refine call_keys (ks := ks) (I.ok.hd hc) pl.isList (by simpa using ln) (fun i v e => ?_) room fun h' tk hS k => ?_
  · rw [List.getElem?_toArray] at e
    obtain ⟨hi, _⟩ := List.getElem?_eq_some_iff.mp e
    have hi' : i < ks.length := by omega
    obtain ⟨u, hu, ru⟩ := rv.get (i := i) (x := kV ks[i]) (by simp [hi'])
    rw [e] at hu
    cases hu
    exact ⟨ks[i], List.getElem?_eq_getElem hi', ru⟩
  · exact ⟨.ref s.heap.objs.size, _, I.laid (t' := tk) k (Nat.le_refl _) (setK_new hS), rfl, q _ (I.hok.fresh (Nat.le_refl _))⟩
/-- len(..) of a set of keys -/
def rLenSetK (P : Program) (w : World) : List V → Hp → VK → Prop := fun vs H Q => ∃ (a : Addr) (S : Key → Bool) (n : Nat), vs = [V.ref a] ∧ H a = some (SetK P w a S n) ∧ n < 2 ^ 62 ∧ Q (.int n) H
theorem cr_lenSetK : CallR X (.builtin "len") (rLenSetK X.prog X.w) := by
  intro pins s σ H vs us Q I r ⟨a, S, n, ev, hs, hn, q⟩
  subst ev
  rw [Vals.ref1 r]
  obtain ⟨o, es, ep, t, ho, hex, hd, _, _, _, hf, en⟩ := setK_get I hs
  exact call_len_set ho hex hd hf (by rw [en]; omega) ⟨.int n, H, I.tok _, ⟨_, by rw [en]⟩, q⟩
end
/-! ### a text some times -/
theorem rep_app {α : Type} (xs : Array α) : ∀ (n : Nat) (acc : Array α), (List.replicate n xs).foldl (· ++ ·) acc = acc ++ (List.replicate n xs.toList).flatten.toArray
  | 0, acc => by simp
  | n + 1, acc => by
    rw [List.replicate_succ, List.foldl_cons, rep_app xs n, List.replicate_succ, List.flatten_cons]
    apply Array.ext'
    simp
theorem op_rep_str {X : Cx} : OpR X (binaryOp .Mult) (fun x y H Q => ∃ (s : Str) (k : Int), x = .str s ∧ y = .int k ∧ 0 ≤ k ∧ k ≤ 1000000 ∧ s.length * k.toNat ≤ 1000000 ∧ Q (.str ⟨(List.replicate k.toNat s.cps.toList).flatten.toArray⟩) H) := by
  intro pins s σ H x y v u Q I rx ry ⟨z, k, ex, ey, k0, k1, hl, q⟩
  subst ex ey
  obtain ⟨t, rfl⟩ := rx
  obtain ⟨t', rfl⟩ := ry
  have dr : (decide (k < -(2 ^ 63 : Int)) || decide (k ≥ 2 ^ 63)) = false := by
    rw [decide_eq_false (by omega), decide_eq_false (by omega)]; rfl
  have sz : z.length * k.toNat ≤ 1000000 := hl
  refine P.mul_str dr (fun h1 _ h2 => ?_) (fun _ _ => ?_) ?_
  · have h3 : (z.length : Int) ≤ (2 ^ 63 - 1) / k := by
      rw [Int.le_ediv_iff_mul_le (by omega)]
      have e : (z.length : Int) * k = ((z.length * k.toNat : Nat) : Int) := by rw [Int.natCast_mul, Int.toNat_of_nonneg k0]
      rw [e]
      omega
    omega
  · unfold Builtin.Str.tooLong
    rw [decide_eq_false]
    rw [sizeLine_eq]
    omega
  · have whole : ∀ w : Str, w = ⟨(List.replicate k.toNat z.cps.toList).flatten.toArray⟩ → ∀ (w' : Tok) s', L2.Inv X pins σ H s' → EP X pins σ Q (.str w w') s' := fun w e w' s' I' => ⟨.str _, H, I', ⟨w', by rw [e]⟩, q⟩
    split
    · rename_i c
      have e0 : k.toNat = 0 := by omega
      exact ⟨by decide, whole _ (by rw [e0]; rfl) _ _ (I.tok _)⟩
    · rename_i c
      split
      · rename_i c2
        refine whole _ ?_ _ _ I
        rw [Bool.or_eq_true] at c2
        rcases c2 with c2 | c2
        · have e1 : k.toNat = 1 := by have := eq_of_beq c2; omega
          rw [e1]
          obtain ⟨cp⟩ := z
          simp
        · have e0 : z.cps.toList = [] := by
            have h := eq_of_beq c2
            have h' : z.cps.size = 0 := h
            exact Array.toList_eq_nil_iff.mpr (Array.eq_empty_of_size_eq_zero h')
          obtain ⟨cp⟩ := z
          have e0' : cp.toList = [] := e0
          have : cp = #[] := Array.toList_eq_nil_iff.mp e0'
          subst this
          simp
      · refine ⟨?_, whole _ ?_ _ _ (I.tok _)⟩
        · show (((List.replicate k.toNat z.cps).foldl (· ++ ·) #[]).size ≤ _)
          rw [rep_app]
          simp [List.length_flatten, sizeLine_eq]
          rw [Nat.mul_comm]
          have : z.cps.size * k.toNat ≤ 1000000 := sz
          omega
        · rw [rep_app]
          apply congrArg
          simp
end Zh

/-! Zh3: enumerate and zip over lists and tuples, whichever. -/
namespace Zh
open PySem PySem.Spec PyProof.Rows L2

/-- a list (false), a tuple (true) -/
def SqB (t : Bool) (K : PySem.W.Frag) (H : Hp) (a : Addr) (xs : List V) : Prop := match t with
  | false => SqL K H a xs
  | true => SqT K H a xs
def atB (t : Bool) (h : Heap) (a : Addr) (its : Array Value) : Prop := match t with
  | false => h.IsList a its
  | true => h.IsTuple a its
def itB (t : Bool) (h : Heap) (i a : Addr) (k : Nat) : Prop := match t with
  | false => h.IsListIter i a k
  | true => h.IsTupleIter i a k
def itO (t : Bool) (a : Addr) : Obj := match t with
  | false => { cls := .type "list_iterator", data := .fields #[.ref a, .int 0 0] }
  | true => { cls := .type "tuple_iterator", data := .fields #[.ref a, .int 0 0] }
section
variable {X : Cx} {pins : List (Addr × Obj)} {σ : L2.St} {H : Hp} {s : Shared} {a : Addr} {xs : List V} {t : Bool}
theorem sqB_at (I : Inv X pins σ H s) (q : SqB t X.K H a xs) : ∃ its : List Value, Vals xs its ∧ atB t s.heap a its.toArray ∧ a < s.heap.objs.size := by
  cases t with
  | false =>
    obtain ⟨its, r, p, _⟩ := I.list q
    exact ⟨its, r, p.isList, p.lt⟩
  | true =>
    obtain ⟨its, r, p, _⟩ := I.tuple q
    exact ⟨its, r, p, p.lt⟩
theorem sqB_inj (I : Inv X pins σ H s) {ys : List V} (q : SqB t X.K H a xs) (q2 : SqB t X.K H a ys) : xs = ys := by
  cases t with
  | false => exact I.list_inj q q2
  | true => exact I.tuple_inj q q2
end
theorem draws_B {P : Program} {w : World} {A : Around} (hh : A.handled = none) (t : Bool) (i a : Addr) (ne : a ≠ i) (its : Array Value) : Draws P w A i [i, a] its.size (fun j v => its[j]? = some v) (fun j h => itB t h i a j ∧ atB t h a its) := by
  cases t with
  | false => exact Draws.list hh i a ne its
  | true => exact Draws.tuple hh i a ne its
theorem begins_B (t : Bool) (a : Addr) (its : Array Value) : Begins (.ref a) (itO t a) fun h => atB t h a its := by
  cases t with
  | false => exact begins_list a its
  | true => exact begins_tuple a its
theorem itB_at {t : Bool} {h h' : Heap} {i a : Addr} {k : Nat} (x : itB t h i a k) (e : ∀ o, h.get? i = some o → h'.get? i = some o) : itB t h' i a k := by
  cases t with
  | false => exact x.at e
  | true => exact x.at e
theorem atB_at {t : Bool} {h h' : Heap} {a : Addr} {its : Array Value} (x : atB t h a its) (e : ∀ o, h.get? a = some o → h'.get? a = some o) : atB t h' a its := by
  cases t with
  | false => exact x.at e
  | true => exact x.at e
theorem itB_obj {t : Bool} {h : Heap} {i a : Addr} {k : Nat} (x : itB t h i a k) : ∃ o, h.get? i = some o ∧ ∀ v, o.data ≠ .cell v := by
  cases t with
  | false =>
    obtain ⟨o, e, _, d⟩ := x
    exact ⟨o, e, fun v q => by rw [d] at q; cases q⟩
  | true =>
    obtain ⟨o, e, _, d⟩ := x
    exact ⟨o, e, fun v q => by rw [d] at q; cases q⟩
theorem itB_new {t : Bool} {h : Heap} {i a : Addr} (e : h.get? i = some (itO t a)) : itB t h i a 0 := by
  cases t with
  | false => exact ⟨_, e, rfl, rfl⟩
  | true => exact ⟨_, e, rfl, rfl⟩

/-! ### enumerate(x) -/
set_option maxHeartbeats 1000000 in
theorem meets_enum1 {v : Value} {o : Obj} {G : Heap → Prop} (B : Begins v o G) :
    Meets (Builtin.«enumerate.__new__» ⟨[.type "enumerate", v], []⟩) (fun _ R s => G s.heap ∧
      R (.ok (.ret (.ref (s.heap.push o).objs.size))) { s with heap := (s.heap.push o).push { cls := .type "enumerate", data := .fields #[.none, .bool false, .ref s.heap.objs.size, rawInt 0, .none, .none] } }) :=
  .of_wp fun P w A R s h => by
    obtain ⟨hp, g, d, tk, os⟩ := s
    obtain ⟨h1, h⟩ := h
    have hsub := sub_enumerate
    have q1 : ∀ {A' : Around} {E : Value → Shared → Prop} {Q : Value → Shared → Prop}, Q (.ref hp.objs.size) ⟨hp.push o, g, d, tk, os⟩ → wpAny (model P w) A' (pyIter v) Q E ⟨hp, g, d, tk, os⟩ :=
      fun q => B.iter P w _ _ ⟨hp, g, d, tk, os⟩ _ h1 q
    wp_walk using q1
    refine wpAny_stack_any fun st => wpAny_pure ?_
    split
    · rename_i c _ _ _ _ _
      cases (c == Value.type "enumerate") <;> (wp_walk using q1; exact ⟨_, rfl, h⟩)
    · wp_walk using q1
      exact ⟨_, rfl, h⟩
theorem enum1_begins {P : Program} {w : World} {A : Around} {E : Value → Shared → Prop} {s : Shared} {v : Value} {o : Obj} {G : Heap → Prop} {Q : Value → Shared → Prop} (B : Begins v o G) (h1 : G s.heap)
    (h : ∀ h', IsEnum h' (s.heap.objs.size + 1) s.heap.objs.size 0 .none → h'.get? s.heap.objs.size = some o → (∀ b u, s.heap.get? b = some u → h'.get? b = some u) → Q (.ref (s.heap.objs.size + 1)) { s with heap := h' }) :
    wpAny (model P w) A (call (.type "enumerate") [v]) Q E s := by
  refine callType_new F.called_enumerate (by decide) (F.typeCall_enumerate_1 _) (F.newCall_enumerate_1 _) (fun u => F.args_object_init_2 u _) F.entry_enumerate_new (meets_enum1 B) ⟨h1, ?_⟩
  have hz : (s.heap.push o).objs.size = s.heap.objs.size + 1 := Heap.size_push ..
  show _ ∧ _
  rw [hz]
  have he : IsEnum ((s.heap.push o).push { cls := .type "enumerate", data := .fields #[.none, .bool false, .ref s.heap.objs.size, rawInt 0, .none, .none] }) (s.heap.objs.size + 1) s.heap.objs.size 0 .none := by
    have q := Heap.get?_push_size (s.heap.push o) (o := { cls := .type "enumerate", data := .fields #[.none, .bool false, .ref s.heap.objs.size, rawInt 0, .none, .none] }) rfl
    rw [hz] at q
    exact q
  exact ⟨⟨_, he, rfl⟩, h _ he (Heap.get?_push_of_some _ (Heap.get?_push_size _ B.free)) fun b u e => Heap.get?_push_of_some _ (Heap.get?_push_of_some _ e)⟩
def IteB (t : Bool) (K : PySem.W.Frag) (a : Addr) : It :=
  ⟨fun i H => ∃ (xs : List V) (x : V), SqB t K H a xs ∧ xs[i]? = some x,
   fun i H v H' => ∃ T x, v = .ref T ∧ H T = none ∧ H' = upd H T (.tup [.int (i : Nat), x]) ∧ ∀ xs, SqB t K H a xs → xs[i]? = some x,
   fun i H => ∃ xs : List V, SqB t K H a xs ∧ xs.length = i⟩
theorem turn_enumB {P : Program} {w : World} {K : PySem.W.Frag} {elts : List Expr} {kk : Nat} {tpos : Pos} (t : Bool) (a e it : Addr) (nea : a ≠ e) (nei : a ≠ it) :
    Turn P w K (.Tuple elts kk tpos) (IteB t K a) [e, it] e (fun i h => (∃ old, IsEnum h e it ((i : Nat) : Int) old) ∧ itB t h it a i ∧ e ≠ it) where
  mem := List.mem_cons_self
  obj := fun i h ⟨⟨old, he⟩, hi, _⟩ b hb => by
    rcases List.mem_cons.mp hb with z | z
    · rw [z]; exact ⟨_, he, fun v q => nomatch q⟩
    · rw [List.mem_singleton.mp z]; exact itB_obj hi
  keep := fun i h h' ⟨⟨old, he⟩, hi, ne⟩ k => ⟨⟨old, k e List.mem_cons_self _ he⟩, itB_at hi fun o q => k it (List.mem_cons_of_mem _ List.mem_cons_self) o q, ne⟩
  item := by
    intro X hP hw hK hc i pins s σ H E I hf ⟨⟨old, he⟩, hit, hne⟩ ⟨xs, x, hq, hx⟩
    subst hP hw hK
    obtain ⟨its, rv, p, la⟩ := sqB_at I hq
    obtain ⟨u, hu, ru⟩ := rv.get hx
    have hel : e < s.heap.objs.size := Heap.lt_size he
    have hil : it < s.heap.objs.size := by obtain ⟨o, q, _⟩ := itB_obj hit; exact Heap.lt_size q
    have hlt : i < its.toArray.size := by have := (List.getElem?_eq_some_iff.mp hu).1; simpa using this
    refine wpAny_pyNext_enum_itemD (draws_B (by rw [show X.A.in1.handled = X.A.handled from rfl]; exact I.ok.hd hc) t it a nei its.toArray) he ⟨hit, p⟩ hlt hne (by simp [hne, nea.symm]) fun y h' tk hy ho hst hT hsz hk => ?_
    obtain rfl : u = y := by
      have q : its[i]? = some y := by simpa using hy
      rw [hu] at q
      exact Option.some.inj q
    refine ⟨_, rfl, wpAny_letOwnedTupleGo_enum (s := { s with heap := h', toks := tk + 1 }) ho fun h2 he2 sb => ?_⟩
    have hT2 : h2.get? s.heap.objs.size = some { cls := .type "tuple", data := .seq #[.int i tk, u] } := (sb.2 _ (Nat.ne_of_gt hel)).trans hT
    have new : ObjOk X.prog X.w (upd H s.heap.objs.size (.tup [.int (i : Nat), x])) h2 s.heap.objs.size (.tup [.int (i : Nat), x]) := ⟨(by decide : 2 ≤ sizeLine), [.int i tk, u], .cons ⟨_, rfl⟩ (.cons ru .nil), ⟨_, hT2, rfl, _, rfl⟩⟩
    have I1 : Inv X pins σ (upd H s.heap.objs.size (.tup [.int (i : Nat), x])) { s with heap := h2, toks := tk + 1 } :=
      I.turnedNew (ch := [e, it]) (fun b ob hb q => (sb.2 b fun z => hb (z ▸ List.mem_cons_self)).trans (hk b ob (fun z => hb (z ▸ List.mem_cons_self)) (fun z => hb (z ▸ List.mem_cons_of_mem _ List.mem_cons_self)) q)) hf (Nat.le_refl _) new
    refine ⟨.ref s.heap.objs.size, _, I1, rfl, ⟨_, x, rfl, I.hok.fresh (Nat.le_refl _), rfl, fun ys hy => by rw [sqB_inj I hy hq]; exact hx⟩, ⟨⟨u, ?_⟩, itB_at hst.1 fun o q => (sb.2 it (Ne.symm hne)).trans q, hne⟩, fun b hb => ?_⟩
    · rw [show ((i + 1 : Nat) : Int) = (i : Int) + 1 by omega]
      exact he2
    · have hb2 : b < s.heap.objs.size := by
        rcases List.mem_cons.mp hb with z | z
        · rw [z]; exact hel
        · rw [List.mem_singleton.mp z]; exact hil
      rw [upd_ne (Nat.ne_of_lt hb2)]
      exact (hf b hb).1
  done := by
    intro X hP hw hK hc i pins s σ H E I hf ⟨⟨old, he⟩, hit, hne⟩ ⟨xs, hq, hx⟩
    subst hP hw hK
    obtain ⟨its, rv, p, la⟩ := sqB_at I hq
    obtain ⟨f0, f1, f2, f3, f4, f5⟩ := hf it (List.mem_cons_of_mem _ List.mem_cons_self)
    have en : i = its.toArray.size := by have := rv.length; simp; omega
    refine wpAny_pyNext_enum_endD (draws_B (by rw [show X.A.in1.handled = X.A.handled from rfl]; exact I.ok.hd hc) t it a nei its.toArray) he (by rw [← en]; exact ⟨hit, p⟩) fun h' eb => ⟨rfl, I.turned (t' := s.toks) (fun b o hb q => eb b o hb q) f0 f1 f3 f4 f5⟩
  self := fun A i s Q E ⟨⟨_, he⟩, _⟩ h => wpAny_pyIter_enum he h
theorem pi_enumB {X : Cx} {e : Expr} {ta : TA} {p pos tpos : Pos} {elts : List Expr} {kk : Nat} (hg : Gl X "enumerate") (hm : X.mg "enumerate" = none) (ha : PA X [e] ta) (hs : starEach [e] X.env = [(false, eval e X.env)]) :
    PI X (.Tuple elts kk tpos) (.Call (.Name "enumerate" p) [e] [] pos) (fun σ H R => ta σ H fun vs H1 => ∃ t a xs, vs = [.ref a] ∧ SqB t X.K H1 a xs ∧ R (IteB t X.K a) H1) := by
  refine ⟨fun pins s σ H R I h => Call_ (ld_blt I hg hm boot_enumerate (PyProof.Rows.callWith_type1 (thn (ha.run pos pins s σ H _ I h) fun us s1 ⟨vs, H1, I1, r1, t, a, xs, ex, hq, q⟩ => ?_) hs rfl))⟩
  subst ex
  rw [Vals.ref1 r1]
  obtain ⟨its, rv, p', la⟩ := sqB_at I1 hq
  refine enum1_begins (begins_B t a its.toArray) p' fun h' he hit hk => wpAny_pyIter_enum he ?_
  have I2 : Inv X pins σ H1 { s1 with heap := h' } := I1.kept (t' := s1.toks) hk
  refine ⟨s1.heap.objs.size + 1, [s1.heap.objs.size + 1, s1.heap.objs.size], _, _, H1, rfl, I2, turn_enumB t a (s1.heap.objs.size + 1) s1.heap.objs.size (Nat.ne_of_lt (Nat.lt_succ_of_lt la)) (Nat.ne_of_lt la), ⟨⟨.none, he⟩, itB_new hit, Nat.succ_ne_self _⟩, fun b hb => ?_, q⟩
  have hle : s1.heap.objs.size ≤ b := by
    rcases List.mem_cons.mp hb with z | z
    · rw [z]; exact Nat.le_add_right _ _
    · rw [List.mem_singleton.mp z]; exact Nat.le_refl _
  exact I1.fpOk hle (I1.hok.fresh hle)
/-! ### zip(x, y) -/
theorem five {n c : Nat} (h : c ∈ [n + 4, n + 2, n + 3, n, n + 1]) : c = n + 4 ∨ c = n + 2 ∨ c = n + 3 ∨ c = n ∨ c = n + 1 := by simpa using h
end Zh

set_option maxHeartbeats 2000000
/-! Zh4: an exception that a clause catches and keeps: try: .. except C as n: m = n. -/
namespace Zh
open PySem PySem.Spec PyProof.Rows L2

/-- a caught exception that lies at a: its class, its dict -/
def KeptX (cls : Value) (d : Option Addr) (a : Addr) : HO := .ext fun h => ∃ (oe : Obj) (vs : Array Value), h.get? a = some oe ∧ Zc cls d oe ∧ oe.data = .fields vs
section
variable {X : Cx} {pins : List (Addr × Obj)} {σ : L2.St} {H : Hp} {s : Shared} {a : Addr} {oe : Obj} {vs : Array Value} {cls : Value} {d : Option Addr}
/-- a pinned exception is tracked from here on -/
theorem keep_exc (I : Inv X ((a, oe) :: pins) σ H s) (hz : Zc cls d oe) (hd : oe.data = .fields vs) (n0 : X.s_0.heap.get? a = none) (np : ∀ p ∈ X.pn ++ pins, p.1 ≠ a) : Inv X pins σ (upd H a (KeptX cls d a)) s := by
  obtain ⟨ha, hn, nl, nf, nc⟩ := I.pin (a, oe) (List.mem_append_right _ List.mem_cons_self)
  have ha : s.heap.get? a = some oe := ha
  have hn : H a = none := hn
  have other : ∀ {b : Addr} {o : HO}, H b = some o → b ≠ a := fun {b o} q z => by
    rw [z, hn] at q
    cases q
  have was : ∀ {b : Addr} {o : Obj}, X.s_0.heap.get? b = some o → b ≠ a := fun {b o} q z => by
    rw [z, n0] at q
    cases q
  have cells : ∀ x c, X.env.cells.lookup x = some c → c ≠ a := fun x c e z => by
    obtain ⟨v, o, e1, e2⟩ := I.cell x c e
    rw [z, ha] at e1
    cases e1
    exact nc v e2
  refine ⟨I.ok, I.os, I.bare, ⟨I.base.keep, I.base.slot, fun b o q n hx => ?_, I.base.there, fun b xs q => ?_, fun b o u q => ?_, fun b ps q => ?_⟩, I.loc, I.cell, ?_, fun x c e => ?_, fun p hp => ?_, fun b o q => ?_, I.len⟩
  · rw [upd_ne (was q)]
    exact I.base.free b o q n hx
  · have t := I.base.tups b xs q
    rw [upd_ne (other t)]
    exact t
  · have t := I.base.frzs b o u q
    rw [upd_ne (other t)]
    exact t
  · obtain ⟨m, t⟩ := I.base.tbls b ps q
    exact ⟨m, by rw [upd_ne (other t)]; exact t⟩
  · rw [upd_ne (Ne.symm nl)]
    exact I.free
  · rw [upd_ne (cells x c e)]
    exact I.freeC x c e
  · obtain ⟨p1, p2, p3, p4, p5⟩ := I.pin p (by
      rcases List.mem_append.mp hp with z | z
      · exact List.mem_append_left _ z
      · exact List.mem_append_right _ (List.mem_cons_of_mem _ z))
    exact ⟨p1, by rw [upd_ne (np p hp)]; exact p2, p3, p4, p5⟩
  · by_cases hb : b = a
    · subst hb
      rw [upd_same] at q
      cases q
      exact ⟨⟨oe, vs, ha, hz, hd⟩, ⟨oe, ha⟩, fun _ _ ⟨o, v, q, r⟩ k => ⟨o, v, k o q, r⟩⟩
    · rw [upd_ne hb] at q
      exact (I.hok b o q).stay (fun _ _ _ z => z) (fun c z => by rw [upd_ne (other z)]; exact z) fun c xs z => by rw [upd_ne (other z)]; exact z

/-- what the clause wishes of the exceptions of its body: the name of the clause at i, the name that keeps at j -/
def wKeep (K : PySem.W.Frag) (c : Value) (i j : Nat) (Wout : WX) (D : Ends) : WX := fun cls d σ H =>
  ∃ b, PySem.W.exmOne K cls c = some b ∧ (b = true → ∀ a, H a = none → D.nx (((σ.set i (some (.ref a))).set j (some (.ref a))).set i none) (upd H a (KeptX cls d a))) ∧ (b = false → Wout cls d σ H)
end
section
variable {X : Cx} {x n m : Str} {c : Value} {i j : Nat} {body : List Stmt} {np p1 p2 p3 pos pos' : Pos} {tb : WX → TS} {Wout : WX}
theorem ps_try_keep (hs : X.stack = X.env :: X.outer) (hf : X.env.frame = some X.env.locals) (hex : X.ex = []) (hN : X.N.Nodup) (hi : X.N[i]? = some n) (hj : X.N[j]? = some m) (hln : X.env.kindOf n = some .local) (hlm : X.env.kindOf m = some .local) (hc : Names X x c) (tk : Takes X Wout) (hdn : (n == ("__debug__" : Str)) = false) (hcn : (n == ("__classdict__" : Str)) = false)
    (hb : ∀ (W : WX) (pn : List (Addr × Obj)) (xe : Value → Shared → Prop), Takes (X.tr pn xe) W → PassesOwn (model X.prog X.w) X.A X.env xe → PSs (X.tr pn xe) body (tb W)) :
    PS X (.Try body [.ExceptHandler (some (.Name x np)) (some n) [.Assign [.Name m p1] (.Name n p2) p3] pos'] [] [] pos) (fun D σ H => tb (wKeep X.K c i j Wout D) D σ H) := by
  have gm : Loc X.env.scope m := .inl hlm
  have gn : Loc X.env.scope n := .inl hln
  have suite : ∀ (a : Addr) (oe : Obj) (pn : List (Addr × Obj)), PSs (X.suite a ((a, oe) :: pn)) [.Assign [.Name m p1] (.Name n p2) p3] (fun D σ H => ∃ v, σ[i]? = some (some v) ∧ D.nx (σ.set j (some v)) H) := fun a oe pn => by
    refine ⟨fun pins s σ H D I q => ?_⟩
    refine (pss_cons (ps_set (X := X.suite a ((a, oe) :: pn)) hN hj gm (pe_var (X := X.suite a ((a, oe) :: pn)) hi (.inl hln) hdn hcn) rfl (.inr hlm)) pss_nil).run pins s σ H D I ?_
    exact q
  refine ⟨fun pins s σ H D I h => ?_⟩
  have ok := I.ok
  have fr0 : X.A.frames = some (X.env :: X.outer) := by rw [ok.frames, hs]
  refine wpAny_Try_except ?_
  refine wpAny_mono ((hb (wKeep X.K c i j Wout D) (X.pn ++ pins) (fun e s₁ => wpAny (model X.prog X.w) X.A (noteFrame e X.env) (fun _ s₂ => wpAny (model X.prog X.w) X.A (setFlight e none) (fun _ s₃ =>
    wpAny (model X.prog X.w) X.A (handleBy e X.env [.ExceptHandler (some (.Name x np)) (some n) [.Assign [.Name m p1] (.Name n p2) p3] pos']) (SP X pins D) X.xe s₃) X.xe s₂) X.xe s₁) (fun u s' hx => ?_) PassesOwn.looking).run [] s σ H D (I.toTry _) h) (fun f s1 q => ?_) (fun e s1 q => q)
  · obtain ⟨a, B, sI, pins2, σ2, H2, cls, d, rfl, J0, nb, up, sky, na, os, ag, b, eb, yes, no⟩ := hx
    have J : Inv X pins σ2 H2 sI := J0.ofTry ok
    rw [hs] at sky
    show wpAny (model X.prog X.w) X.A (noteFrame (.ref a) X.env) _ _ _
    refine Sky.land Zc.steady fr0 hf sky fun h3 fl up3 => ?_
    have J3 : Inv X pins σ2 H2 { s' with heap := h3 } := J.landed nb fl.1 (up.trans up3) os ag
    obtain ⟨o3, v3, g3, z3, d3⟩ := fl.there
    have out : a ∉ frs (X.env :: X.outer) := fun hm => by
      obtain ⟨_, o', e', hnf⟩ := fl.2.2.1.mem hm
      rw [g3] at e'
      cases e'
      exact hnf _ d3
    have aL : a ≠ X.env.locals := fun z => out (List.mem_filterMap.mpr ⟨X.env, List.mem_cons_self, by rw [hf, z]⟩)
    have aF : a ∉ X.fs := fun hm => by
      obtain ⟨e, he, q⟩ := List.mem_filterMap.mp hm
      exact out (List.mem_filterMap.mpr ⟨e, List.mem_cons_of_mem _ he, q⟩)
    have notI : sI.heap.get? a = none := by
      cases q : sI.heap.get? a with
      | none => rfl
      | some o =>
        have z := nb a o q (by rw [hs]; exact out)
        rw [fl.2.1] at z
        cases z
    have not0 : X.s_0.heap.get? a = none := by
      cases q : X.s_0.heap.get? a with
      | none => rfl
      | some o =>
        obtain ⟨o', z⟩ := J.base.there a o q (by rw [hex]; exact fun z => nomatch z)
        rw [notI] at z
        cases z
    have noP : ∀ p ∈ X.pn ++ pins, p.1 ≠ a := fun p hp z => by
      have q := (J.pin p hp).1
      rw [z, notI] at q
      cases q
    have S3 := J3.suite g3 d3 na aL aF
    refine wpAny_handleBy_cons (codeAny_handlers_test ?_) (by intro q; cases q)
    have LT : PySem.W.Looks (model X.prog X.w) h3 (typeOf (.ref a)) cls := fun A Q E s k q => wpAny_typeOf_ref (k _ _ g3) (by rw [z3.1]; exact q)
    have LM := PySem.W.exm_one (M := model X.prog X.w) (J3.kIn) LT eb
    have read : ∀ {Q : Value → Shared → Prop} {E : Value → Shared → Prop}, Q c { s' with heap := h3 } → wpAny (model X.prog X.w) (X.A.mark (some (.ref a))) (eval (.Name x np) X.env) Q E { s' with heap := h3 } := fun {Q E} q => by
      obtain ⟨hg, hdbg, hm | ⟨hm, hv, hnn⟩⟩ := hc
      · exact ld_glob (X := X.suite a ((a, o3) :: (X.pn ++ pins))) S3 hg hm q hdbg
      · exact ld_blt (X := X.suite a ((a, o3) :: (X.pn ++ pins))) S3 hg hm hv q hnn hdbg
    refine read (LM.here ?_)
    cases b with
    | true =>
      refine codeAny_handlers_suite_as ?_
      refine HandSPX.lands_againZ fl fun h4 fl4 up4 => ?_
      have J4 : Inv X pins σ2 H2 { s' with heap := h4 } := J.landed nb fl4.1 ((up.trans up3).trans up4) os ag
      obtain ⟨o4, v4, g4, z4, d4⟩ := fl4.there
      have S4 := J4.suite g4 d4 na aL aF
      have li : i < σ2.length := by rw [J.len]; exact (List.getElem?_eq_some_iff.mp hi).1
      refine store_ok (X := X.suite a ((a, o4) :: (X.pn ++ pins))) (v := .ref a) S4 hN hi gn rfl (fun s5 S5 => ?_) (.inr hln)
      refine wpAny_mono ((suite a o4 (X.pn ++ pins)).run [] s5 _ H2 { nx := fun σ' H' => σ' = (σ2.set i (some (.ref a))).set j (some (.ref a)) ∧ H' = H2, rt := fun _ _ => False, bk := fun _ _ => False, ct := fun _ _ => False } S5 ⟨.ref a, List.getElem?_set_self li, rfl, rfl⟩) (fun f s6 q6 => ?_) (fun _ _ z => False.elim z)
      cases f with
      | next =>
        obtain ⟨σ6, H6, S6, e1, e2⟩ := q6
        subst e1 e2
        have P6 : Inv X ((a, o4) :: pins) ((σ2.set i (some (.ref a))).set j (some (.ref a))) H6 s6 :=
          ⟨ok, S6.os, S6.bare, S6.base, S6.loc, S6.cell, S6.free, S6.freeC, fun p hp => S6.pin p (List.mem_append_left _ (by
            rcases List.mem_append.mp hp with z | z
            · exact List.mem_cons_of_mem _ (List.mem_append_left _ z)
            · rcases List.mem_cons.mp z with z | z
              · rw [z]; exact List.mem_cons_self
              · exact List.mem_cons_of_mem _ (List.mem_append_right _ z))), S6.hok, S6.len⟩
        exact gone_ok P6 hN hi hln fun s7 J7 => ⟨_, _, keep_exc J7 z4 d4 not0 noP, yes rfl a na⟩
      | brk =>
        obtain ⟨_, _, _, z⟩ := q6
        exact False.elim z
      | cont =>
        obtain ⟨_, _, _, z⟩ := q6
        exact False.elim z
      | ret u =>
        obtain ⟨_, _, _, _, _, z⟩ := q6
        exact False.elim z
    | false =>
      show wpAny _ X.A (handleBy (.ref a) X.env []) _ _ _
      refine wpAny_handleBy_nil ?_
      obtain ⟨k1, k2, k3, oe, vs, T, oT, ts', he, hz, hd, h1, hr⟩ := id fl
      unfold PySem.passOn
      refine wpAny_bind (wpAny_field he hd h1 ?_)
      rw [if_neg (show ¬ ((Value.ref T == Value.none) = true) from by simp)]
      have fin : wpAny (model X.prog X.w) X.A (setFlight (.ref a) X.env.frame) (fun _ s4 => wpAny (model X.prog X.w) X.A (throw (.ref a) : Sem Flow) (SP X pins D) X.xe s4) X.xe { s' with heap := h3 } := by
        rw [hf]
        refine HandSPX.setFlight_upZ fl fun h4 hh4 up4 => wpAny_throw (tk _ _ ?_)
        exact ⟨a, B, sI, pins, σ2, H2, cls, d, rfl, J, nb, (up.trans up3).trans up4, .inr (.inr (by rw [hs]; exact hh4)), na, os, ag, no rfl⟩
      first
        | exact wpAny_bind (wpAny_pure (wpAny_bind fin))
        | exact wpAny_bind fin
  · cases f with
    | next =>
      obtain ⟨a1, a2, a3, a4⟩ := q
      exact wpAny_execs_nil ⟨a1, a2, a3.ofTry ok, a4⟩
    | brk =>
      obtain ⟨a1, a2, a3, a4⟩ := q
      exact ⟨a1, a2, a3.ofTry ok, a4⟩
    | cont =>
      obtain ⟨a1, a2, a3, a4⟩ := q
      exact ⟨a1, a2, a3.ofTry ok, a4⟩
    | ret u =>
      obtain ⟨a0, a1, a2, a3, a4, a5⟩ := q
      exact ⟨a0, a1, a2, a3.ofTry ok, a4, a5⟩
end
end Zh

set_option maxHeartbeats 2000000
/-! Zh5: error classes whose __init__ hands on to their base class by its name and keeps one thing. -/
namespace Zh
open PySem PySem.Spec PyProof.Rows L2

/-- the base class, without an __init__ of its own -/
structure BaseC (K : PySem.W.Frag) (P : Addr) : Prop where
  sp : PySem.W.specialIn K (.ref P) "__getattribute__" = some (some (.builtin "type.__getattribute__"))
  rd : PySem.W.readsIn K P (.type "type") = true
  fi : PySem.W.findCls K (.ref P) (.type "type") "__init__" = some (.val (.builtin "ValueError.__init__"))
section
variable {X : Cx} {e : Expr} {es : List Expr} {ta : TA} {c f : Str} {P : Addr} {p1 p2 pos : Pos}
/-- what such an __init__(self, f) promises -/
def spInit (K : PySem.W.Frag) (f : Str) : Sp := fun vs H Q _ => ∃ (a C : Addr) (y : V), vs = [.ref a, y] ∧ OexC K C ∧ PySem.W.findIn K (.ref C) f = some none ∧ H a = some (exo a C none) ∧
  ∀ dx, H dx = none → dx ≠ a → Q .non (upd (upd H dx (exd dx [(f, y)])) a (exo a C (some dx)))
end
end Zh

/-! Zh6: repr of data where nothing is being shown yet (the law's own frame), and the law's end for a def that leans on that. -/
namespace Zh
open PySem PySem.Spec PyProof.Rows L2 Att

mutual
theorem dp_nodict {K : PySem.W.Frag} {H : Hp} : ∀ (d : PyData) (v : V), Dp K H v d → d.hasDict = false
  | .none, _, _ => rfl
  | .bool _, _, _ => rfl
  | .int _, _, _ => rfl
  | .str _, _, _ => rfl
  | .list ds, _, h => by
    cases h with
    | lst _ q => show PyData.hasDictAll ds = false; exact dp_nodicts ds _ q
  | .tuple ds, _, h => by
    cases h with
    | tup _ q => show PyData.hasDictAll ds = false; exact dp_nodicts ds _ q
  | .dict _, _, h => nomatch h
theorem dp_nodicts {K : PySem.W.Frag} {H : Hp} : ∀ (ds : List PyData) (vs : List V), DpAll K H vs ds → PyData.hasDictAll ds = false
  | [], _, _ => rfl
  | d :: ds, _, h => by
    cases h with
    | cons p q =>
      show (PyData.hasDict d || PyData.hasDictAll ds) = false
      rw [dp_nodict d _ p, dp_nodicts ds _ q]; rfl
end
/-! ### a def that leans on nothing being shown where it is called -/
structure GOk (P : Program) (w : World) (K : PySem.W.Frag) (mg : Str → Option Value) (base : Heap) (CX : CXT) (k : Nat) (f : Addr) (fd : FuncData) (ps : List Str) (sp : Sp) : Prop where
  many : ∀ vs H Q E, sp vs H Q E → vs.length = ps.length
  goes : ∀ (A : Around) (outer : List Env) (s : Shared) (H : Hp) (args : Args) (us : List Value) (vs : List V) (Q : VK) (E : XK), A.guards = some [] → Room k A → Env0 P w K mg base A outer s H → BindsTo s fd args (ps.zip us) → Vals vs us →
    sp vs H Q E → codeAny (model P w) A (.call (.ref f) args) (CR CX outer P w H s Q E) s
theorem run_or {X : Cx} {CX : CXT} {k : Nat} {f : Addr} {fd : FuncData} {ps : List Str} {sp : Sp} {dvs : List V} {ds : List Value} {E : L2.St → XK} {pins : List (Addr × Obj)} {σ : L2.St} {H : Hp} {s : Shared} {Q : VK} {us : List Value} {vs : List V}
    (F : FnOk X.prog X.w X.K X.mg X.base CX k f fd ps sp ∨ (GOk X.prog X.w X.K X.mg X.base CX k f fd ps sp ∧ X.A.guards = some [])) (room : Room k X.A) (hb : Binds X.K fd ps ds) (hd : Vals dvs ds) (hx : PassesAt CX X σ (E σ))
    (I : Inv X pins σ H s) (r : Vals vs us) (want : sp (vs ++ dvs) H Q (E σ)) : wpAny (model X.prog X.w) X.A (call (.ref f) us) (EP X pins σ Q) X.xe s := by
  rcases F with F | ⟨F, gd⟩
  · exact run_fnSD F room hb hd hx I r want
  · have both := r.append hd
    have ln : (us ++ ds).length = ps.length := both.length.symm.trans (F.many _ _ _ _ want)
    refine wpAny_call (codeAny_mono (F.goes X.A X.stack s H ⟨us, []⟩ (us ++ ds) (vs ++ dvs) Q (E σ) gd room I.env0 (hb s us I.kIn ln) both want) fun res s2 q => ?_)
    match res, q with
    | .error e, q => exact hx pins H s e s2 I q
    | .ok (.ret u), q => exact I.after q
    | .ok .next, q => exact q.elim
    | .ok .brk, q => exact q.elim
    | .ok .cont, q => exact q.elim
/-! ### the one call from outside -/
/-- a def's promise for the call that the claim makes: no frame below it, nothing being shown -/
def TopOk (P : Program) (w : World) (K : PySem.W.Frag) (mg : Str → Option Value) (base : Heap) (CX : CXT) (f : Addr) (fd : FuncData) (x : Str) (sp : Sp) : Prop :=
  ∀ (s : Shared) (H : Hp) (u : Value) (v : V) (Q : VK) (E : XK), Env0 P w K mg base callerA [] s H → BindsTo s fd ⟨[u], []⟩ [(x, u)] → RelV v u → sp [v] H Q E →
    codeAny (model P w) callerA (.call (.ref f) ⟨[u], []⟩) (CR CX [] P w H s Q E) s
theorem top_of {CX : CXT} {P : Program} {w : World} {K : PySem.W.Frag} {mg : Str → Option Value} {base : Heap} {f : Addr} {name qual x : Str} {params : Arguments} {body : List Stmt} {scope : Scope} {dV kV doc pm cdv ct oc : Value} {an od : Option Addr}
    {osl : Array (Option Value)} {N : List Str} {sp : Sp} (there : K.lookup f = some ⟨oc, od, .func (PySem.W.fnOf name qual params body scope dV kV doc pm an cdv ct), osl⟩) (code : PySem.W.codeIn K cdv qual = true) (sc : FnScope N [x] scope) (room : Room 1 callerA)
    (go : ∀ (s : Shared) (H : Hp) (v : V) (Q : VK) (E : XK), sp [v] H Q E → ∃ t, PSs (cxOf CX P w K mg base N qual scope f cdv callerA [] s H E) body t ∧ t { nx := fun _ H' => Q .non H', rt := Q } (start N [v]) H) :
    TopOk P w K mg base CX f (PySem.W.fnOf name qual params body scope dV kV doc pm an cdv ct) x sp := by
  intro s H u v Q E en bd ru want
  have stays : ∀ b o, base.get? b = some o → s.heap.get? b = some o := fun b o q => (en.bs b o q).1
  have inK : K.In s.heap := en.mod.kin.keeps stays
  have free := en.mod.nolimit.keeps stays
  have par : ∀ y ∈ [(x, u)], scope.names.lookup y.1 = some .local ∨ (scope.names.lookup y.1 = some .cell ∧ ((cellsFrom (s.heap.objs.size + 1) scope.names []).lookup y.1).isSome = true) := by
    intro y hy
    obtain rfl := List.mem_singleton.mp hy
    exact (sc.par x (List.mem_singleton_self x)).imp id fun q => ⟨q, PySem.W.cellsFrom_some _ _ _ (.inl q)⟩
  refine codeAny_call_function (by have := room.dp; omega) (inK _ _ there) rfl sc.co sc.gen rfl (PySem.W.codeRec_of inK code) (bd _ _ _ _ (wpAny_newFunctionEnv_cells sc.kind par fun env he s1 made => ?_))
  subst he
  refine ⟨free.keeps made.toInCall.keep, codeAny_func ?_⟩
  obtain ⟨t, meaning, holds⟩ := go s H v Q E want
  have J := inv_start (CX := CX) (E := E) (qual := qual) (f := f) (cd := cdv) sc room.hd en (vs := [v]) rfl (.cons ru .nil) made
  refine wpAny_mono (meaning.run [] s1 _ H _ J holds) (fun fl s2 hs => ?_) fun _ _ z => z
  match fl, hs with
  | .ret y, ⟨z, _, H2, J2, r2, q2⟩ => exact ⟨z, H2, J2.os, J2.bare, J2.base, J2.hok, r2, q2⟩
  | .next, ⟨_, H2, J2, q2⟩ => exact ⟨.non, H2, J2.os, J2.bare, J2.base, J2.hok, rfl, q2⟩
  | .brk, ⟨_, _, _, q2⟩ => exact q2.elim
  | .cont, ⟨_, _, _, q2⟩ => exact q2.elim
end Zh

/-! Zh7: sorted over data that stand in a tuple. -/
namespace Zh
open PySem PySem.Spec PyProof.Rows L2
section
variable {prog : Program} {w : World} {A : Around} {E : Value → Shared → Prop} {s : Shared}
theorem collect_tup {l : Addr} {vs : List Value} {Q : List Value → Shared → Prop} (hl : s.heap.IsTuple l vs.toArray)
    (h : Q vs { s with heap := (s.heap.push (seqObj "list" #[] 0)).update s.heap.objs.size (Obj.mapSeq (· ++ vs.toArray)) }) (hsz : vs.length ≤ sizeLine) :
    wpAny (model prog w) A (collect (.ref l)) Q E s := by
  obtain ⟨o, ho, hc, n, hd⟩ := id hl
  unfold collect
  refine wpAny_bind (wpAny_runValue (codeAny_builtin entry_proto_collect' ?_))
  show wpAny _ _ (do again (.builtin "list.__iadd__" ⟨[← newList [], .ref l], []⟩)) _ _ s
  refine wpAny_bind (wpAny_newList (wpAny_pure ⟨Code.quiet_builtin _ (by decide +kernel), codeAny_builtin entry_list_iadd' ?_⟩))
  show wpAny _ _ (Builtin.List.listExtendWith (.ref s.heap.objs.size) (.ref l) (.ref s.heap.objs.size)) _ _ { s with heap := s.heap.push (seqObj "list" #[] 0) }
  unfold Builtin.List.listExtendWith
  have ho' : (s.heap.push (seqObj "list" #[] 0)).get? l = some o := Heap.get?_push_of_some _ ho
  refine wpAny_bind (wpAny_typeOf (T := "tuple") ⟨o, ho', hc⟩ ?_)
  have ht : (Value.type "tuple" == Value.type "tuple") = true := by rfl
  rw [if_pos (by rw [ht]; simp)]
  refine wpAny_bind (listItems_at ho' hd ?_)
  refine wpAny_bind (listItems_at (xs := #[]) (n := 0) (Heap.get?_push_size _ rfl) rfl ?_)
  rw [if_neg (by simp)]
  refine wpAny_bind (listUpdate_at (xs := #[]) (n := 0) (Heap.get?_push_size _ rfl) rfl ?_ (Nat.zero_le _) (by show (#[] ++ vs.toArray).size ≤ sizeLine + 1; simp only [Array.size_append, List.size_toArray, List.length_nil]; omega))
  refine wpAny_pure ?_
  show wpAny (model prog w) A (do
      let o ← load s.heap.objs.size
      match o.data with
      | .seq xs _ => pure xs.toList
      | _ => unsupported "internal:collect") Q E { s with heap := (s.heap.push (seqObj "list" #[] 0)).update s.heap.objs.size (Obj.mapSeq (· ++ vs.toArray)) }
  refine wpAny_bind (wpAny_load (get?_update_seq (Heap.get?_push_size _ rfl) _) ?_)
  show wpAny _ _ (pure ((#[] : Array Value) ++ vs.toArray).toList) Q E _
  rw [show ((#[] : Array Value) ++ vs.toArray).toList = vs by simp]
  exact wpAny_pure h
open PySem.W PySem.Calls in
theorem sorted_of_tup {l : Addr} {vs : List Value} {kw : List (Str × Value)} {Q : Value → Shared → Prop} (hl : s.heap.IsTuple l vs.toArray) (hL : vs.length ≤ sizeLine) (ha1 : argsOk "sorted" ⟨[.ref l], kw⟩) (ha2 : ∀ x, argsOk "list.sort" ⟨[.ref x], kw⟩)
    (body : ∀ E' : Value → Shared → Prop, wpAny (model prog w) A.in1.in1 (Builtin.«list.sort» ⟨[.ref (s.heap.objs.size + 1)], kw⟩) (fun f s' => f = .done (.ret .none) ∧ Q (.ref (s.heap.objs.size + 1)) s') E' { s with heap := copyHeap s.heap vs }) :
    wpAny (model prog w) A (call (.builtin "sorted") [.ref l] kw) Q E s := by
  refine call_function_entry_kw kind_sorted plain_sorted entry_sorted ha1 ?_
  unfold Builtin.«sorted»
  refine wpAny_bind (m := checkCount "sorted" 1 1 _) (wpAny_pure ?_)
  refine wpAny_bind (collect_tup hl ?_ hL)
  refine wpAny_bind (wpAny_newList ?_ hL)
  have hsz : ((s.heap.push (seqObj "list" #[] 0)).update s.heap.objs.size (Obj.mapSeq (· ++ vs.toArray))).objs.size = s.heap.objs.size + 1 := by
    rw [Heap.size_update, size_push']
  show wpAny _ _ _ _ _ { s with heap := copyHeap s.heap vs }
  rw [hsz]
  refine wpAny_bind (wpAny_holding (wpAny_call_entry_kw slot_list_sort ⟨_, copyHeap_at s.heap vs, rfl⟩ entry_list_sort ?body (ha2 _)))
  case body =>
    show wpAny (model prog w) A.in1.in1 (Builtin.«list.sort» ⟨[.ref (s.heap.objs.size + 1)], kw⟩) _ _ _
    refine wpAny_mono (body _) (fun f s' hf => ?_) fun _ _ e => e
    obtain ⟨rfl, hq⟩ := hf
    exact ⟨_, rfl, wpAny_pure ⟨_, rfl, hq⟩⟩
open PySem.W (EachIs AllAlike Sortable dataLe) in
theorem sorted_data_tup {β : Type} {vs : List Value} {bs : List β} {enc : β → PyData} {R : Value → β → Prop} {l : Addr} {Q : Value → Shared → Prop} (hl : s.heap.IsTuple l vs.toArray) (e : EachIs R vs bs) (er : EachIs (fun v b => ∃ as, Reads s.heap v (enc b) as) vs bs) (hal : AllAlike (bs.map enc)) (hk : Sortable (bs.map enc)) (hL : bs.length ≤ sizeLine)
    (hu : ∀ b, b ∈ bs → A.units + 2 + (enc b).depth < cLine) (h : ∀ out, out.length = bs.length → EachIs R out (bs.mergeSort (dataLe false enc)) → Q (.ref (s.heap.objs.size + 1)) { s with heap := sortedAll s.heap vs (List.toArray out) }) :
    wpAny (model prog w) A (call (.builtin "sorted") [.ref l]) Q E s := by
  have er' : EachIs (fun v b => ∃ as, Reads (PySem.W.sortingHeap (PySem.W.copyHeap s.heap vs) (s.heap.objs.size + 1) vs) v (enc b) as) vs bs := er.mono fun _ _ ⟨as, r⟩ => ⟨as, PyProof.Rows.Reads.keeps (fun _ _ => PySem.W.sorting_copy_old) r⟩
  have hL' : vs.length ≤ sizeLine := by rw [e.length]; exact hL
  exact sorted_of_tup hl hL' (args_sorted1 _) (fun _ => args_list_sort _) fun _ => PySem.W.list_sort_vals (s := { s with heap := PySem.W.copyHeap s.heap vs }) (PySem.W.copyHeap_at s.heap vs)
    (PySem.W.SortsAt.data (s := { s with heap := PySem.W.sortingHeap (PySem.W.copyHeap s.heap vs) (s.heap.objs.size + 1) vs }) (PySem.W.each_map (R := fun v d => ∃ as, Reads (PySem.W.sortingHeap (PySem.W.copyHeap s.heap vs) (s.heap.objs.size + 1) vs) v d as) enc er') hal hk (PySem.W.bound_map hu)) hL'
    ⟨rfl, h _ (by rw [PySem.W.sortVals_length false rfl]; exact e.length) (PySem.W.sortVals_data false e er' hal)⟩
end
open PySem.W (AllAlike Sortable) in
def rSortedDA (K : PySem.W.Frag) : List V → Hp → VK → Prop := fun vs H Q => ∃ (a : Addr) (xs : List V) (ds : List PyData), vs = [V.ref a] ∧ (SqL K H a xs ∨ SqT K H a xs) ∧ DpAll K H xs ds ∧ AllAlike ds ∧ Sortable ds ∧ (∀ d ∈ ds, d.depth ≤ 60) ∧
  ∀ p, H p = none → Q (.ref p) (upd H p (.lst (sortV (xs.zip ds))))
theorem cr_sortedDA {X : Cx} (hu : X.A.units + 65 < cLine) : CallR X (.builtin "sorted") (rSortedDA X.K) := by
  intro pins s σ H vs us Q I r h
  obtain ⟨a, xs, ds, rfl, hs | hs, hd, al, so, dp, q⟩ := h
  · exact cr_sortedD hu pins s σ H _ us Q I r ⟨a, xs, ds, rfl, hs, hd, al, so, dp, q⟩
  obtain ⟨its, rv, hl, hz⟩ := I.tuple hs
  rw [Vals.ref1 r]
  have hxd := dpAll_len hd
  have hlen : (sortV (xs.zip ds)).length = xs.length := by
    unfold sortV
    rw [List.length_map, List.length_mergeSort, List.length_zip, ← hxd, Nat.min_self]
  refine sorted_data_tup (vs := its) (β := V × PyData) (R := fun u p => RelV p.1 u) (enc := fun p => p.2) (bs := xs.zip ds) (show s.heap.IsTuple a its.toArray from hl) (each_vals rv hxd) (each_reads I rv hd) (by rw [zip_snd hxd]; exact al) (by rw [zip_snd hxd]; exact so) (by rw [List.length_zip, ← hxd, Nat.min_self]; exact hz)
    (fun b hb => ?_) fun out ho eo => ?_
  · have := dp b.2 (List.of_mem_zip (show (b.1, b.2) ∈ xs.zip ds from hb)).2
    omega
  · obtain ⟨ep, he'⟩ := PyProof.Rows.sortedAll_at s.heap its out.toArray
    exact ⟨.ref _, upd H (s.heap.objs.size + 1) (.lst (sortV (xs.zip ds))), I.laid (t' := s.toks) (fun _ _ => PyProof.Rows.sortedAll_old) (Nat.le_succ _) ⟨by rw [hlen]; exact hz, out, ep, vals_each eo, he'⟩, rfl, q _ (I.hok.fresh (Nat.le_succ _))⟩

/-! ### tuples known whole: +, slices -/
section
variable {X : Cx}
def rCatW (K : PySem.W.Frag) : R2 := fun x y H Q => ∃ a b xs ys, x = .ref a ∧ y = .ref b ∧ SqT K H a xs ∧ SqT K H b ys ∧ xs.length + ys.length ≤ sizeLine ∧
  (xs = [] → Q (.ref b) H) ∧ (xs ≠ [] → ys = [] → Q (.ref a) H) ∧ (xs ≠ [] → ys ≠ [] → ∀ p o, o.dict = none → H p = none → Q (.ref p) (upd H p (.frz o (.tup (xs ++ ys)))))
theorem op_catW : OpR X (binaryOp .Add) (rCatW X.K) := by
  intro pins s σ H x y v u Q I rx ry h
  obtain ⟨a, b, xs, ys, rfl, rfl, ha, hb, hz, q0, q1, q2⟩ := h
  by_cases hx : xs = []
  · exact op_catA pins s σ H _ _ v u Q I rx ry ⟨a, b, xs, ys, rfl, rfl, ha, hb, hz, q0, q1, fun z => absurd hx z⟩
  by_cases hy : ys = []
  · exact op_catA pins s σ H _ _ v u Q I rx ry ⟨a, b, xs, ys, rfl, rfl, ha, hb, hz, q0, q1, fun _ z => absurd hy z⟩
  cases rx
  cases ry
  obtain ⟨its, r1, p1, _⟩ := I.tuple ha
  obtain ⟨its2, r2, p2, _⟩ := I.tuple hb
  refine HT.cat_tup p1 p2 (fun z => hx (r1.nil_iff.mp z)) (fun z => ⟨.ref a, H, I, rfl, q1 hx (r2.nil_iff.mp z)⟩) (fun z => ?_) (by rw [← r1.length, ← r2.length]; exact hz)
  refine ⟨.ref s.heap.objs.size, _, I.laid (t' := s.toks) (o := .frz (seqObj "tuple" (its ++ its2).toArray 0) (.tup (xs ++ ys))) (fun b ob q => Heap.get?_push_of_some _ q) (Nat.le_refl _) ?_, rfl, q2 hx hy _ _ rfl (I.hok.fresh (Nat.le_refl _))⟩
  exact ⟨Heap.get?_push_size _ rfl, by rw [List.length_append]; exact hz, _, r1.append r2, IsTup.new _ _⟩
def rSlW (K : PySem.W.Frag) : V → Option Int → Option Int → Hp → VK → Prop := fun x lo hi H Q => ∃ a xs, x = .ref a ∧ SqT K H a xs ∧
  (HT.sIx xs.length 0 lo = 0 ∧ HT.sIx xs.length xs.length hi = xs.length → Q (.ref a) H) ∧ (¬ (HT.sIx xs.length 0 lo = 0 ∧ HT.sIx xs.length xs.length hi = xs.length) → ∀ p o, o.dict = none → H p = none → Q (.ref p) (upd H p (.frz o (.tup (cutV xs lo hi)))))
theorem sl_tupW : SlR X (rSlW X.K) := by
  intro pins s σ H x v vl vu lo hi sl Q I rx hs pl pu h
  obtain ⟨a, xs, rfl, hx, q1, q2⟩ := h
  by_cases hw : HT.sIx xs.length 0 lo = 0 ∧ HT.sIx xs.length xs.length hi = xs.length
  · exact sl_tupA pins s σ H _ v vl vu lo hi sl Q I rx hs pl pu ⟨a, xs, rfl, hx, q1, fun z => absurd hw z⟩
  cases rx
  obtain ⟨its, r, ht, hz⟩ := I.tuple hx
  have hlen : its.toArray.size = xs.length := by rw [List.size_toArray]; exact r.length.symm
  refine ⟨"tuple", _, PyProof.Rows.slot_tuple_getitem.lookup, ht.typeIs, ?_⟩
  refine HT.getItem_tuple_cut ht hs pl pu (by rw [hlen]; exact hw) ?_ (by rw [hlen]; exact hz)
  rw [hlen]
  refine ⟨.ref s.heap.objs.size, _, I.laid (t' := s.toks) (o := .frz { cls := .type "tuple", data := .seq ((its.toArray.toList.drop (HT.sIx xs.length 0 lo)).take (HT.sIx xs.length xs.length hi - HT.sIx xs.length 0 lo)).toArray } (.tup (cutV xs lo hi))) (fun b ob q => Heap.get?_push_of_some _ q) (Nat.le_refl _) ?_, rfl, q2 hw _ _ rfl (I.hok.fresh (Nat.le_refl _))⟩
  exact ⟨Heap.get?_push_size _ rfl, Nat.le_trans (cutV_length xs lo hi) hz, _, (r.drop (HT.sIx xs.length 0 lo)).take (HT.sIx xs.length xs.length hi - HT.sIx xs.length 0 lo), IsTup.new _ _⟩
end
end Zh

/-! Zh8: x[::-1] of a list or a tuple. -/
namespace Zh
open PySem PySem.Spec PyProof.Rows L2
section
variable {prog : Program} {w : World} {A : Around} {E : Value → Shared → Prop} {s : Shared}
theorem places_rev (n : Nat) : Builtin.Slice.slicePlaces ((n : Int) - 1) (-1) (-1) = n := by
  unfold Builtin.Slice.slicePlaces
  rw [if_neg (by decide), show (- -1 : Int) = 1 by decide, Int.ediv_one]
  split <;> omega
theorem slPart {v : Value} {o : Option Int} {Q : Option Int → Shared → Prop} (p : IsPart v o) (h : Q o s) : wpAny (model prog w) A (Builtin.Slice.slicePartIndex v) Q E s := by
  cases p with
  | none => exact slicePart_none h
  | int i t => exact slicePart_int h
theorem sliceApplied_rev {sl : Addr} {vl vu vs : Value} {n : Nat} {Q : Int × Int × Nat → Shared → Prop} (hs : s.heap.IsSliceOf sl vl vu vs) (pl : IsPart vl none) (pu : IsPart vu none) (ps : IsPart vs (some (-1)))
    (h : Q ((n : Int) - 1, -1, n) s) : wpAny (model prog w) A (Builtin.Slice.sliceApplied (.ref sl) (pure (n : Int))) Q E s := by
  obtain ⟨os, hos, hcs, hds⟩ := id hs
  unfold Builtin.Slice.sliceApplied Builtin.Slice.sliceFields
  refine wpAny_bind (wpAny_bind (wpAny_field hos hds (x := vl) rfl (wpAny_bind (wpAny_field hos hds (x := vu) rfl (wpAny_bind (wpAny_field hos hds (x := vs) rfl (wpAny_pure ?_)))))))
  refine wpAny_bind (slPart ps ?_)
  show wpAny _ _ (if ((-1 : Int) == 0) = true then _ else _) _ _ s
  rw [if_neg (by decide)]
  refine wpAny_bind (slPart pl (wpAny_bind (slPart pu (wpAny_bind (wpAny_pure ?_)))))
  show wpAny _ _ (pure ((n : Int) - 1, (-1 : Int), Builtin.Slice.slicePlaces ((n : Int) - 1) (-1) (-1))) _ _ s
  rw [places_rev]
  exact wpAny_pure h
theorem fm_some {α β : Type} {f : α → Option β} {g : α → β} : ∀ {l : List α}, (∀ m ∈ l, f m = some (g m)) → l.filterMap f = l.map g
  | [], _ => rfl
  | a :: l, h => by
    rw [List.filterMap_cons, h a List.mem_cons_self, List.map_cons, fm_some fun m k => h m (List.mem_cons_of_mem _ k)]
theorem pick_rev (xs : Array Value) : ((List.range xs.size).filterMap fun (m : Nat) => xs[((xs.size : Int) - 1 + (m : Int) * -1).toNat]?).toArray = xs.toList.reverse.toArray := by
  have e : ∀ m ∈ List.range xs.size, xs[((xs.size : Int) - 1 + (m : Int) * -1).toNat]? = some (xs.toList.reverse.getD m .none) := fun m hm => by
    have hm := List.mem_range.mp hm
    have hl : xs.toList.length = xs.size := Array.length_toList
    have : ((xs.size : Int) - 1 + (m : Int) * -1).toNat = xs.size - 1 - m := by omega
    rw [this, List.getD_eq_getElem?_getD, List.getElem?_reverse (by omega), hl, ← Array.getElem?_toList, List.getElem?_eq_getElem (by omega)]; rfl
  rw [fm_some e]
  congr 1
  apply List.ext_getElem
  · simp
  · intro i h1 h2
    rw [List.getElem_map, List.getElem_range, List.getD_eq_getElem?_getD, List.getElem?_eq_getElem h2]; rfl
theorem getItem_tuple_rev {t sl : Addr} {items : Array Value} {vl vu vs : Value} {Q : Value → Shared → Prop} (ht : IsTup s.heap t items) (hs : s.heap.IsSliceOf sl vl vu vs) (pl : IsPart vl none) (pu : IsPart vu none) (ps : IsPart vs (some (-1)))
    (h : Q (.ref s.heap.objs.size) { s with heap := s.heap.push { cls := .type "tuple", data := .seq items.toList.reverse.toArray } })
    (hsz : items.size ≤ sizeLine) : wpAny (model prog w) A (getItem (.ref t) (.ref sl)) Q E s := by
  have htake : sizeOk (.seq items.toList.reverse.toArray) := by
    show items.toList.reverse.toArray.size ≤ sizeLine
    rw [List.size_toArray, List.length_reverse, Array.length_toList]
    exact hsz
  obtain ⟨os, hos, hcs, hds⟩ := id hs
  have hTs : s.TypeIs (.ref sl) "slice" := ⟨os, hos, hcs⟩
  unfold getItem
  try with_reducible refine wpAny_holding ?_
  first | refine wpAny_bind (wpAny_pure ?_) | skip
  refine wpAny_bind (wpAny_sequenceKey ht.typeIs (by decide) ?_)
  refine wpAny_bind (wpAny_callSpecial?_slot (name := Str.ofString "__getitem__") ht.typeIs PyProof.Rows.slot_tuple_getitem
    (wpAny_call_entry PyProof.Rows.slot_tuple_getitem ht.typeIs entry_tuple_getitem ?_ (args_tuple_getitem _ _)))
  show wpAny _ _ (Builtin.Tuple.tupleItemsOf (.ref t) >>= _) _ _ s
  refine wpAny_bind (tupleItemsOf_ ht ?_)
  refine wpAny_bind (wpAny_typeOf hTs ?_)
  rw [if_pos (by decide)]
  refine wpAny_bind (sliceApplied_rev hs pl pu ps ?_)
  show wpAny _ _ (if ((((items.size : Nat) : Int) - 1) == 0 && (-1 : Int) == 1 && items.size == items.size) = true then _ else _) _ _ s
  rw [if_neg (by rw [show ((-1 : Int) == 1) = false from rfl, Bool.and_false, Bool.false_and]; decide), pick_rev]
  first
    | exact wpAny_bind (m := Builtin.Tuple.tupleExact _) (wpAny_newObj_type (wpAny_pure ⟨_, rfl, wpAny_pure h⟩) htake)
    | exact wpAny_bind (m := Builtin.Tuple.tupleExact _) (wpAny_newObj_type (wpAny_bind (wpAny_pure (wpAny_pure ⟨_, rfl, wpAny_pure h⟩))) htake)
    | exact wpAny_bind (wpAny_bind (m := Builtin.Tuple.tupleExact _) (wpAny_newObj_type (wpAny_pure (wpAny_pure ⟨_, rfl, wpAny_pure h⟩)) htake))
    | exact wpAny_bind (wpAny_bind (m := Builtin.Tuple.tupleExact _) (wpAny_newObj_type (wpAny_pure ⟨_, rfl, wpAny_pure h⟩) htake))
end
section
variable {X : Cx}
def tRevA (K : PySem.W.Frag) (te : TE) : TE := fun σ H Q => te σ H fun x H1 => ∃ a xs, x = .ref a ∧ ((SqL K H1 a xs ∧ ∀ p, H1 p = none → Q (.ref p) (upd H1 p (.lst xs.reverse))) ∨ (SqT K H1 a xs ∧ ∀ p o, o.dict = none → H1 p = none → Q (.ref p) (upd H1 p (.frz o (.tup xs.reverse)))) ∨ (SqT K H1 a xs ∧ ∀ p, H1 p = none → Q (.ref p) (upd H1 p (.tup xs.reverse))))
theorem pe_revA {e : Expr} {te : TE} {k : Nat} {p1 p2 p3 pos : Pos} (he : PE X e te) : PE X (.Subscript e (.Slice none none (some (.UnaryOp .USub (.Constant (.int 1) k p1) p2)) p3) pos) (tRevA X.K te) := by
  refine ⟨fun pins s σ H Q I h => ?_⟩
  refine Subscript_ (thn (he.run pins s σ H _ I h) fun v s1 ⟨x, H1, I1, r1, q1⟩ => ?_)
  obtain ⟨a, xs, ex, hx⟩ := q1
  subst ex
  cases r1
  have hst : PO X (some (.UnaryOp .USub (.Constant (.int 1) k p1) p2)) (tPart (tUn (rU fun i => .int (-i)) (tC (.int 1)))) := po_some (pe_un un_neg pe_int)
  refine wpAny_Slice (thn (po_none.run pins s1 σ H1 (fun o H2 => o = none ∧ H2 = H1) I1 ⟨rfl, rfl⟩) fun vl s2 ⟨l, H2, I2, pl, el, e2⟩ => ?_)
  subst el e2
  refine thn (po_none.run pins s2 σ H2 (fun o H3 => o = none ∧ H3 = H2) I2 ⟨rfl, rfl⟩) fun vu s3 ⟨u, H3, I3, pu, eu, e3⟩ => ?_
  subst eu e3
  refine thn (hst.run pins s3 σ H3 (fun o H4 => o = some (-1) ∧ H4 = H3) I3 ⟨1, rfl, -1, rfl, rfl, rfl⟩) fun vs s4 ⟨o, H4, I4, ps, eo, e4⟩ => ?_
  subst eo e4
  have I5 : Inv X pins σ H4 { s4 with heap := s4.heap.push { cls := .type "slice", data := .fields #[vl, vu, vs] } } := I4.kept (t' := s4.toks) fun b ob q => Heap.get?_push_of_some _ q
  show wpAny (model X.prog X.w) X.A (subscriptTail e (.Slice none none (some (.UnaryOp .USub (.Constant (.int 1) k p1) p2)) p3) (.ref a) (.ref s4.heap.objs.size)) (EP X pins σ Q) X.xe { s4 with heap := s4.heap.push { cls := .type "slice", data := .fields #[vl, vu, vs] } }
  rcases hx with ⟨hx, q⟩ | ⟨hx, q⟩ | ⟨hx, q⟩
  · obtain ⟨its, r, ht, hz⟩ := I5.list hx
    have hlen := r.length
    refine tail_any (ops := [.ref a, .ref s4.heap.objs.size]) ht.isList.typeIs (PySem.slot_list_getitem.lookup) ?_ (by with_unfolding_all rfl)
    refine wpAny_getItem_list_slice ht.isList (Heap.IsSliceOf.new _ vl vu vs) pl pu ps (by decide) ?_ (by rw [List.size_toArray]; omega)
    rw [PySem.W.krv_pick]
    refine ⟨.ref _, _, I5.laid (t' := s4.toks) (o := .lst xs.reverse) (fun b ob q => Heap.get?_push_of_some _ q) (Nat.le_refl _) ?_, rfl, q _ (I5.hok.fresh (Nat.le_refl _))⟩
    exact ⟨by rw [List.length_reverse]; exact hz, _, 0, r.reverse, Heap.get?_push_size _ rfl⟩
  · obtain ⟨its, r, ht, hz⟩ := I5.tuple hx
    have hlen := r.length
    refine tail_any (ops := [.ref a, .ref s4.heap.objs.size]) ht.typeIs (PyProof.Rows.slot_tuple_getitem.lookup) ?_ (by with_unfolding_all rfl)
    refine getItem_tuple_rev ht (Heap.IsSliceOf.new _ vl vu vs) pl pu ps ?_ (by rw [List.size_toArray]; omega)
    refine ⟨.ref _, _, I5.laid (t' := s4.toks) (o := .frz { cls := .type "tuple", data := .seq its.toArray.toList.reverse.toArray } (.tup xs.reverse)) (fun b ob q => Heap.get?_push_of_some _ q) (Nat.le_refl _) ?_, rfl, q _ _ rfl (I5.hok.fresh (Nat.le_refl _))⟩
    exact ⟨Heap.get?_push_size _ rfl, by rw [List.length_reverse]; exact hz, _, r.reverse, IsTup.new _ _⟩
  · obtain ⟨its, r, ht, hz⟩ := I5.tuple hx
    have hlen := r.length
    refine tail_any (ops := [.ref a, .ref s4.heap.objs.size]) ht.typeIs (PyProof.Rows.slot_tuple_getitem.lookup) ?_ (by with_unfolding_all rfl)
    refine getItem_tuple_rev ht (Heap.IsSliceOf.new _ vl vu vs) pl pu ps ?_ (by rw [List.size_toArray]; omega)
    refine ⟨.ref _, _, I5.laid (t' := s4.toks) (o := .tup xs.reverse) (fun b ob q => Heap.get?_push_of_some _ q) (Nat.le_refl _) ?_, rfl, q _ (I5.hok.fresh (Nat.le_refl _))⟩
    exact ⟨by rw [List.length_reverse]; exact hz, _, r.reverse, IsTup.new _ _⟩
end
end Zh

set_option maxHeartbeats 4000000
/-! Zh9: isinstance of an exception that was kept, with a dict or without. -/
namespace Zh
open PySem PySem.Spec PySem.Calls PySem.W PyProof.Rows
section
variable {prog : Program} {w : World} {A : Around} {E : Value → Shared → Prop} {s : Shared} {K : Frag} {x D : Addr} {ox : Obj} {od : Option Obj}
/-- a name that the class answers by a getter of its own -/
theorem find_byClass {C : Addr} {name : Str} {a g : Value} (hc : (clsIn K C).isSome = true) (ha : findIn K (.ref C) name = some (some a)) (hg : specialIn K a "__get__" = some (some g)) (ht : takesIn K a = some true) : findObj K C od name = some (.bind g a) := by
  obtain ⟨cd, hc⟩ := Option.isSome_iff_exists.mp hc
  unfold findObj
  rw [hc, Option.bind_some, ha, Option.bind_some]
  simp [hg, ht]
theorem kin_classD {Q : Option Value → Shared → Prop} (T : L2.ExcC K D) (X : K.In s.heap) (I : InstAt s.heap x ox D od) (h : Q (some (.ref D)) { s with toks := s.toks + 1 }) : wpAny (model prog w) A (getAttr? (.ref x) "__class__") Q E s := by
  have hf : findObj K D od "__class__" = some (.bind (.builtin "getset_descriptor.__get__") (.builtin "object.__class__")) := find_byClass (by obtain ⟨cd, hc, _⟩ := any_some T.hd; rw [hc]; rfl) T.ha T.hn T.ht
  obtain ⟨hp, g, d, t, os⟩ := s
  have l0 := I.type (M := model prog w)
  have l1 := looks_findIn (M := model prog w) X T.hg
  have l2 := looks_findIn (M := model prog w) X T.hk
  have l3 := looks_find (M := model prog w) X I hf
  have sub : Looks (model prog w) hp (isInstance (.ref x) (.type "BaseException")) true := l0.andThen (looks_subIn X T.hs)
  have f1 : (Value.builtin "BaseException.__getattribute__" == Value.builtin "object.__getattribute__") = false := by decide +kernel
  have f2 : (onTheHeap (Value.ref D) && Value.builtin "BaseException.__getattribute__" == Value.builtin "object.__getattribute__") = false := by rw [f1]; rfl
  unfold getAttr? getAttrBy? getAttrBy
  refine wpAny_bind (wpAny_mkText (wpAny_bind (wpAny_attempt (wpAny_holding (wpAny_bind (l0.at (wpAny_bind (l1.at ?_))))))))
  show wpAny _ _ (if (onTheHeap (Value.ref D) && Value.builtin "BaseException.__getattribute__" == Value.builtin "object.__getattribute__") = true then _ else _) _ _ _
  rw [f2, if_neg Bool.false_ne_true]
  unfold getAttrByItsOwn hookBefore
  refine wpAny_bind ?_
  rw [if_pos (show onTheHeap (Value.ref D) = true from rfl)]
  refine l2.at (wpAny_bind (wpAny_attempt (wpAny_holding ?_)))
  unfold callGetattribute
  rw [show (false && onTheHeap (Value.builtin "BaseException.__getattribute__")) = false from rfl, if_neg Bool.false_ne_true]
  unfold boundAndCalled
  rw [PySem.F.excAttr_ValueError.ga.bind (.ref x)]
  refine wpAny_bind (wpAny_pure ?_)
  show wpAny _ _ (call (.builtin "BaseException.__getattribute__") [.ref x, .str "__class__" t]) _ _ _
  refine wpAny_call (codeAny_call_builtin PySem.F.excAttr_ValueError.ga.plain PySem.F.entry_bexc_ga ?_)
  refine @check_slot (model prog w) _ _ ⟨hp, g, d, t + 1, os⟩ "BaseException.__getattribute__" "BaseException" "__getattribute__" (.ref x) [.str "__class__" t] [] _ (by decide +kernel) (by decide +kernel) sub (PySem.F.args_bexc_ga (.ref x) (.str "__class__" t)) ?_
  unfold Builtin.«object.__getattribute__»
  refine wpAny_bind (wpAny_of_eq (a := ((Value.ref x : Value), [Value.str "__class__" t])) (by first | rfl | (simp only [slotArgs]; rfl)) ?_)
  refine wpAny_bind (wpAny_pure (wpAny_bind (l0.at (wpAny_bind (l3.at ?_)))))
  show wpAny _ _ (holding [Value.builtin "object.__class__"] (call (.builtin "getset_descriptor.__get__") [.builtin "object.__class__", .ref x, .ref D]) >>= ret) _ _ _
  refine wpAny_bind (wpAny_holding (wpAny_call (class_get (s := ⟨hp, g, d, t + 1, os⟩) (ox := ox) (od := od) X I T.hm ?_)))
  refine wpAny_pure ?_
  show wpAny _ _ (handedOut (.ref D)) _ _ _
  rw [handedOut_of (v := .ref D) rfl]
  first
    | exact wpAny_pure (wpAny_pure h)
    | exact wpAny_pure h
    | exact wpAny_pure (wpAny_bind (wpAny_pure (wpAny_pure h)))
theorem kitx_excD (T : L2.ExcC K D) : KitX K (.ref x) (.ref D) (fun h => InstAt h x ox D od) where
  ty := fun _ _ _ I => I.type
  it := (handS_kitx_exc (x := x) (ox := ox) T.hg T.hk T.hs T.hd T.ha T.hn T.ht T.hm).it |> fun f => by
    obtain ⟨cdD, hcD, _⟩ := any_some T.hd
    intro M h X _
    unfold clsIn at hcD
    split at hcD
    · rename_i c' d' cd' sl' ho
      intro A' Q' E' s' k q
      unfold isType loadHead
      exact wpAny_bind (wpAny_loadPart (k _ _ (X _ _ ho)) (wpAny_pure q))
    · cases hcD
  ne := (handS_kitx_exc (x := x) (ox := ox) T.hg T.hk T.hs T.hd T.ha T.hn T.ht T.hm).ne
  ca := fun X I k => kin_classD T X I k
end
end Zh
namespace Zh
open PySem PySem.Spec PyProof.Rows L2
/-- a class that isinstance may be asked of, as a value -/
theorem kit_val {K : PySem.W.Frag} {C : Addr} {cv : Value} {b : Bool} (h : PySem.W.kitOne K (.ref C) cv = some b) : ∃ v : V, RelV v cv ∧ ∀ u, RelV v u → u = cv := by
  cases cv with
  | ref a => exact ⟨.ref a, rfl, fun u q => q⟩
  | type n => exact ⟨.ty n, rfl, fun u q => q⟩
  | _ => exact absurd h (by
      unfold PySem.W.kitOne PySem.W.kitCls
      rw [if_neg (by rw [beq_iff_eq]; exact fun z => by cases z)]
      exact fun z => nomatch z)
/-- isinstance(e, c), e an exception that was kept -/
def rIsX (K : PySem.W.Frag) : List V → Hp → VK → Prop := fun xs H Q => ∃ (a C : Addr) (d : Option Addr) (c : V) (cv : Value) (b : Bool), xs = [.ref a, c] ∧ H a = some (KeptX (.ref C) d a) ∧ (d = none ∨ ∃ dd ps, d = some dd ∧ H dd = some (.xd ps)) ∧
  L2.ExcC K C ∧ (∀ u, RelV c u → u = cv) ∧ PySem.W.kitOne K (.ref C) cv = some b ∧ Q (.bl b) H
theorem call_isX {X : Cx} : CallR X (.builtin "isinstance") (rIsX X.K) := by
  intro pins s σ H xs us Q I r h
  obtain ⟨a, C, d, c, cv, b, rfl, ek, hd, T, hcv, e, q⟩ := h
  cases r with
  | cons rx rr =>
    cases rr with
    | cons rt rr =>
      cases rr
      cases rx
      have ec := hcv _ rt
      subst ec
      obtain ⟨⟨oe, ovs, ho, hz, hdt⟩, _, _⟩ := I.hok a _ ek
      have nc : PySem.W.notCls oe = true := by unfold PySem.W.notCls; rw [hdt] <;> rfl
      rcases hd with ed | ⟨dd, ps, ed, exd⟩
      · have J : PySem.W.InstAt s.heap a oe C none := ⟨ho, hz.1, nc, by rw [hz.2, ed]; trivial⟩
        exact PySem.W.kia_one (kitx_excD T) I.kIn J e (fun z => nomatch z) fun tk => ⟨.bl b, H, I.tok tk, rfl, q⟩
      · have hx : ObjOk X.prog X.w H s.heap dd (.xd ps) := I.hok dd _ exd
        obtain ⟨mA, hns, hr⟩ := hx
        obtain ⟨od, hod, hlk⟩ := lookIn_ns hns
        have J : PySem.W.InstAt s.heap a oe C (some od) := ⟨ho, hz.1, nc, by rw [hz.2, ed]; exact hod⟩
        exact PySem.W.kia_one (kitx_excD T) I.kIn J e (fun z => nomatch z) fun tk => ⟨.bl b, H, I.tok tk, rfl, q⟩
end Zh
namespace Zh
open PySem PySem.Spec PyProof.Rows L2
/-! ### how often it is in a list -/
def rCountD (K : PySem.W.Frag) : V → List V → Hp → VK → Prop := fun x xs H Q => ∃ (a : Addr) (y : V) (d : PyData) (ds : List PyData), x = V.ref a ∧ xs = [y] ∧ Dp K H (V.ref a) (.list ds) ∧ Dp K H y d ∧
  SeqAt.shaped (.list ds) = true ∧ SeqAt.shaped d = true ∧ Q (.int ((ds.countP fun z => PyData.eqv z d : Nat) : Int)) H
theorem mt_countD {X : Cx} (hu : X.A.units + 65 < cLine) : MtR X "list.count" (rCountD X.K) := by
  intro pins s σ H x xs v us Q I rx rxs h
  obtain ⟨a, y, d, ds, rfl, rfl, hl, hy, sl, sd, q⟩ := h
  cases rx
  cases rxs with
  | cons ry rt =>
    rename_i uy ut
    cases rt
    obtain ⟨bs, r1⟩ := Dp.reads I d y uy hy ry
    have hxs : PyData.canLayAll0 ds = true := SeqAt.canLay_of_shaped sl
    have hroom : X.A.units + 1 + min (PyData.depthAll ds) d.depth < cLine := room_in_shaped sd hu
    cases hl with
    | lst hs ha =>
      obtain ⟨its, rv, ⟨⟨cls, dd, data, sls⟩, n, ho, hc, hdn, hdt⟩, hlen⟩ := I.list hs
      simp only at hc hdt
      subst hc hdt
      obtain ⟨as, h4⟩ := Dp.readsAll I ds _ its ha rv
      have hmap : its.map (SeqAt.readOf s.heap) = ds := SeqAt.readsAll_map ds its as hxs h4
      refine call_meets PySem.F.slot_list_count ⟨_, ho, rfl⟩ PySem.F.entry_list_count (PySem.F.args_list_count_2 _ _)
        (SeqAt.list_countAt a its.toArray n dd sls uy (fun u => PyData.eqv (SeqAt.readOf s.heap u) d)) ⟨ho, SeqAt.items_eqAt (vs := its.toArray) (show ReadsAll s.heap its.toArray.toList ds as from h4) r1 hxs (SeqAt.canLay_of_shaped sd) hroom, ?_⟩
      refine ⟨.int ((ds.countP fun z => PyData.eqv z d : Nat) : Int), H, I.tok _, ⟨s.toks, ?_⟩, q⟩
      show Value.int ((its.toArray.toList.countP (fun u => PyData.eqv (SeqAt.readOf s.heap u) d) : Nat) : Int) s.toks = _
      rw [← hmap, List.countP_map]
      rfl
end Zh
namespace Zh
open PySem PySem.Spec PyProof.Rows L2
end Zh

/-! Zh10: dict(enumerate(x)) of a list or a tuple. -/
namespace Zh
open PySem PySem.Spec PyProof.Rows L2

section
variable {prog : Program} {w : World} {A : Around} {E : Value → Shared → Prop} {s : Shared}
end
section
variable {prog : Program} {w : World}
end
end Zh

/-! Zh11: x[::s] of a list, s told to be 1 or -1. -/
namespace Zh
open PySem PySem.Spec PyProof.Rows L2
section
variable {X : Cx}
end
end Zh

/-! Zh12: == and != of things of two kinds (a list, a tuple, a dict and a text), of any tuple and an empty one, of any list and an empty one; a whole tuple times a number. -/
namespace Zh
open PySem PySem.Spec PySem.SeqAt PyProof.Rows L2
section
variable {A : Around} {s : Shared}
theorem dict_eq_declines_str (l : Addr) (es : Array (Option DictEntry)) (ep : Nat) (b : Str) (u : Tok) (e0 : Array DictEntry) :
    Meets (Builtin.«dict.__eq__» ⟨[.ref l, .str b u], []⟩) (fun _ R s => s.heap.get? l = some { cls := .type "dict", dict := none, data := .dict e0 ep, slots := #[] } ∧ R (.ok (.ret .notImplemented)) s) :=
  .of_wp fun prog w A R s h => by obtain ⟨hp, g, d, tk, os⟩ := s; obtain ⟨hl, h⟩ := h; have f1 := F.sub_str_dict; wp_walk using wpAny_loadPart' hl, wpAny_load hl; exact ⟨_, rfl, h⟩
theorem dict_ne_declines_str (l : Addr) (ep : Nat) (b : Str) (u : Tok) (e0 : Array DictEntry) :
    Meets (Builtin.«dict.__ne__» ⟨[.ref l, .str b u], []⟩) (fun _ R s => s.heap.get? l = some { cls := .type "dict", dict := none, data := .dict e0 ep, slots := #[] } ∧ R (.ok (.ret .notImplemented)) s) :=
  .of_wp fun prog w A R s h => by obtain ⟨hp, g, d, tk, os⟩ := s; obtain ⟨hl, h⟩ := h; have f1 := F.sub_str_dict; wp_walk using wpAny_loadPart' hl, wpAny_load hl; exact ⟨_, rfl, h⟩
theorem str_eq_declines_dict (b : Str) (u : Tok) (l : Addr) (ep : Nat) (e0 : Array DictEntry) :
    Meets (Builtin.«str.__eq__» ⟨[.str b u, .ref l], []⟩) (fun _ R s => s.heap.get? l = some { cls := .type "dict", dict := none, data := .dict e0 ep, slots := #[] } ∧ R (.ok (.ret .notImplemented)) s) :=
  .of_wp fun prog w A R s h => by obtain ⟨hp, g, d, tk, os⟩ := s; obtain ⟨hl, h⟩ := h; wp_walk using wpAny_loadPart' hl, wpAny_load hl; exact ⟨_, rfl, h⟩
theorem str_ne_declines_dict (b : Str) (u : Tok) (l : Addr) (ep : Nat) (e0 : Array DictEntry) :
    Meets (Builtin.«str.__ne__» ⟨[.str b u, .ref l], []⟩) (fun _ R s => s.heap.get? l = some { cls := .type "dict", dict := none, data := .dict e0 ep, slots := #[] } ∧ R (.ok (.ret .notImplemented)) s) :=
  .of_wp fun prog w A R s h => by obtain ⟨hp, g, d, tk, os⟩ := s; obtain ⟨hl, h⟩ := h; wp_walk using wpAny_loadPart' hl, wpAny_load hl; exact ⟨_, rfl, h⟩
def DictAt (s : Shared) (l : Addr) : Prop := ∃ (ep : Nat) (e0 : Array DictEntry), s.heap.get? l = some { cls := .type "dict", dict := none, data := .dict e0 ep, slots := #[] }
theorem rcEq_dict_str {l : Addr} (b : Str) (u : Tok) (hl : DictAt s l) (hu : A.units < cLine) : SeqAt.RcAt A s (.ref l) (.str b u) false := fun prog w E Q h => by
  obtain ⟨ep, e0, ho⟩ := hl
  exact rc_eq_decline_or (k := false) ⟨_, ho, rfl⟩ (typeIs_str s b u) (by decide) F.sub_str_dict F.slot_dict_eq F.slot_str_eq_refl
    (fun _ hq => call_meets F.slot_dict_eq ⟨_, ho, rfl⟩ F.entry_dict_eq (F.args_dict_eq_2 _ _) (dict_eq_declines_str l #[] ep b u e0) ⟨ho, hq⟩)
    (fun _ hq => call_meets F.slot_str_eq_refl (typeIs_str s b u) F.entry_str_eq (F.args_str_eq_2 _ _) (str_eq_declines_dict b u l ep e0) ⟨ho, hq⟩)
    (fun _ hq => wpAny_of_eq (rfl : isSame (.ref l) (.str b u) = pure false) hq) (.inr hu) h
theorem rcNe_dict_str {l : Addr} (b : Str) (u : Tok) (hl : DictAt s l) (hu : A.units < cLine) : SeqAt.RcNeAt A s (.ref l) (.str b u) true := fun prog w E Q h => by
  obtain ⟨ep, e0, ho⟩ := hl
  exact rc_ne_decline_or (k := false) ⟨_, ho, rfl⟩ (typeIs_str s b u) (by decide) F.sub_str_dict F.slot_dict_ne F.slot_str_ne_refl
    (fun _ hq => call_meets F.slot_dict_ne ⟨_, ho, rfl⟩ F.entry_dict_ne (F.args_dict_ne_2 _ _) (dict_ne_declines_str l ep b u e0) ⟨ho, hq⟩)
    (fun _ hq => call_meets F.slot_str_ne_refl (typeIs_str s b u) F.entry_str_ne (F.args_str_ne_2 _ _) (str_ne_declines_dict b u l ep e0) ⟨ho, hq⟩)
    (fun _ hq => wpAny_of_eq (rfl : isSame (.ref l) (.str b u) = pure false) hq) (.inr hu) h
theorem rcEq_tup_nil {l m : Addr} {its : Array Value} (hl : s.heap.IsTuple l its) (hm : s.heap.IsTuple m #[]) (hu : A.units < cLine) : SeqAt.RcAt A s (.ref l) (.ref m) (its.size == 0) := by
  have := SeqAt.RcAt.tuples (A := A) (s := s) (e := fun _ => true) hl hm hu (fun j _ h2 => absurd h2 (Nat.not_lt_zero j))
  simpa using this
theorem rcNe_tup_nil {l m : Addr} {its : Array Value} (hl : s.heap.IsTuple l its) (hm : s.heap.IsTuple m #[]) (hu : A.units < cLine) : SeqAt.RcNeAt A s (.ref l) (.ref m) (!(its.size == 0)) := by
  have := SeqAt.RcNeAt.tuples (A := A) (s := s) (e := fun _ => true) hl hm hu (fun j _ h2 => absurd h2 (Nat.not_lt_zero j))
  simpa using this
theorem rcEq_lst_nil {l m : Addr} {its : Array Value} (hl : s.heap.IsList l its) (hm : s.heap.IsList m #[]) (hu : A.units < cLine) : SeqAt.RcAt A s (.ref l) (.ref m) (its.size == 0) := by
  by_cases c : its.size = 0
  · have := SeqAt.RcAt.lists (A := A) (s := s) (e := fun _ => true) hl hm c hu (fun j _ h2 => absurd h2 (Nat.not_lt_zero j))
    rw [c] at this ⊢
    exact this
  · have := SeqAt.RcAt.lists_lengths (A := A) (s := s) hl hm (by simpa using c) hu
    rw [show (its.size == 0) = false by simpa using c]
    exact this
theorem rcNe_lst_nil {l m : Addr} {its : Array Value} (hl : s.heap.IsList l its) (hm : s.heap.IsList m #[]) (hu : A.units < cLine) : SeqAt.RcNeAt A s (.ref l) (.ref m) (!(its.size == 0)) := by
  by_cases c : its.size = 0
  · have := SeqAt.RcNeAt.lists (A := A) (s := s) (e := fun _ => true) hl hm c hu (fun j _ h2 => absurd h2 (Nat.not_lt_zero j))
    rw [c] at this ⊢
    exact this
  · have := SeqAt.RcNeAt.lists_lengths (A := A) (s := s) hl hm (by simpa using c) hu
    rw [show (its.size == 0) = false by simpa using c]
    exact this
end
section
variable {X : Cx} {pins : List (Addr × Obj)} {σ : L2.St} {H : Hp} {s : Shared}
def Odd2 (K : PySem.W.Frag) (x y : V) (H : Hp) (b : Bool) : Prop :=
  (∃ l xs z, x = .ref l ∧ y = .str z ∧ (SqL K H l xs ∨ SqT K H l xs) ∧ b = false) ∨
  (∃ l z, x = .ref l ∧ y = .str z ∧ ((∃ kvs, H l = some (.dK kvs)) ∨ ∃ kvs, H l = some (.dT kvs)) ∧ b = false) ∨
  (∃ l m xs, x = .ref l ∧ y = .ref m ∧ SqT K H l xs ∧ SqT K H m [] ∧ b = xs.isEmpty) ∨
  (∃ l m xs, x = .ref l ∧ y = .ref m ∧ SqL K H l xs ∧ SqL K H m [] ∧ b = xs.isEmpty) ∨
  ∃ l m, x = .ref l ∧ y = .ref m ∧ (H l = some (.dK []) ∨ H l = some (.dT [])) ∧ (H m = some (.dK []) ∨ H m = some (.dT [])) ∧ b = true
/-- an empty dict is one by any kind of key -/
theorem dict_nil (I : Inv X pins σ H s) {l : Addr} (h : H l = some (.dK []) ∨ H l = some (.dT [])) : (l == sysModules) = false ∧ ∀ (prog : Program) (w : World), s.heap.DictOf (mixKind prog w) l [] := by
  rcases h with h | h
  · obtain ⟨_, z, vs, r, o, es, ep, e, c, hd, hk, hp, nd⟩ := (show ObjOk X.prog X.w H s.heap l (.dK []) from I.hok l _ h)
    have e0 : vs = [] := List.length_eq_zero_iff.mp r.length.symm
    subst e0
    have e1 : es.toList = [] := List.length_eq_zero_iff.mp hp.length
    refine ⟨z, fun prog w => ⟨o, es, ep, e, c, hd, fun en m => ?_, by rw [e1]; exact .nil, List.nodup_nil⟩⟩
    rw [← Array.mem_toList_iff, e1] at m
    cases m
  · obtain ⟨_, z, xs, r, o, es, ep, e, c, hd, he, nd⟩ := (show ObjOk X.prog X.w H s.heap l (.dT []) from I.hok l _ h)
    have e0 : xs = [] := List.length_eq_zero_iff.mp r.length.symm
    have e1 : es.toList = [] := by rw [he, e0]; rfl
    refine ⟨z, fun prog w => ⟨o, es, ep, e, c, hd, fun en m => ?_, by rw [e1]; exact .nil, List.nodup_nil⟩⟩
    rw [← Array.mem_toList_iff, e1] at m
    cases m
theorem dict_at (I : Inv X pins σ H s) {l : Addr} (h : (∃ kvs, H l = some (.dK kvs)) ∨ ∃ kvs, H l = some (.dT kvs)) : DictAt s l := by
  rcases h with ⟨kvs, h⟩ | ⟨kvs, h⟩
  · obtain ⟨_, _, vs, _, o, es, ep, e, ⟨c1, c2, c3⟩, hd, _⟩ := (show ObjOk X.prog X.w H s.heap l (.dK kvs) from I.hok l _ h)
    obtain ⟨cls, dd, data, sl⟩ := o
    simp only at c1 c2 c3 hd
    subst c1 c2 c3 hd
    exact ⟨ep, es, e⟩
  · obtain ⟨_, _, xs, _, o, es, ep, e, ⟨c1, c2, c3⟩, hd, _⟩ := (show ObjOk X.prog X.w H s.heap l (.dT kvs) from I.hok l _ h)
    obtain ⟨cls, dd, data, sl⟩ := o
    simp only at c1 c2 c3 hd
    subst c1 c2 c3 hd
    exact ⟨ep, es, e⟩
theorem len_nil {xs : List V} {its : List Value} (r : Vals xs its) : (its.toArray.size == 0) = xs.isEmpty := by
  rw [List.size_toArray, ← r.length]
  cases xs <;> rfl
theorem odd_run (I : Inv X pins σ H s) (hu : X.A.units < cLine) {x y : V} {v u : Value} {b : Bool} (rx : RelV x v) (ry : RelV y u) (o : Odd2 X.K x y H b) : SeqAt.RcAt X.A s v u b ∧ SeqAt.RcNeAt X.A s v u (!b) := by
  rcases o with ⟨l, xs, z, rfl, rfl, h, rfl⟩ | ⟨l, z, rfl, rfl, h, rfl⟩ | ⟨l, m, xs, rfl, rfl, h1, h2, rfl⟩ | ⟨l, m, xs, rfl, rfl, h1, h2, rfl⟩ | ⟨l, m, rfl, rfl, h1, h2, rfl⟩
  · cases rx
    obtain ⟨t, rfl⟩ := ry
    rcases h with h | h
    · obtain ⟨its, r, p, _⟩ := I.list h
      exact ⟨.list_str z t p.isList hu, .list_str z t p.isList hu⟩
    · obtain ⟨its, r, p, _⟩ := I.tuple h
      exact ⟨.tuple_str z t p hu, .tuple_str z t p hu⟩
  · cases rx
    obtain ⟨t, rfl⟩ := ry
    exact ⟨rcEq_dict_str z t (dict_at I h) hu, rcNe_dict_str z t (dict_at I h) hu⟩
  · cases rx
    cases ry
    obtain ⟨its, r, p, _⟩ := I.tuple h1
    obtain ⟨its2, r2, p2, _⟩ := I.tuple h2
    cases r2
    rw [← len_nil r]
    exact ⟨rcEq_tup_nil p p2 hu, rcNe_tup_nil p p2 hu⟩
  · cases rx
    cases ry
    obtain ⟨its, r, p, _⟩ := I.list h1
    obtain ⟨its2, r2, p2, _⟩ := I.list h2
    cases r2
    rw [← len_nil r]
    exact ⟨rcEq_lst_nil p.isList p2.isList hu, rcNe_lst_nil p.isList p2.isList hu⟩
  · cases rx
    cases ry
    obtain ⟨z1, d1⟩ := dict_nil I h1
    obtain ⟨z2, d2⟩ := dict_nil I h2
    exact ⟨fun prog w E Q q => PySem.W.keq_eq (knd := mixKind prog w) (r := true) z1 z2 (d1 prog w) (d2 prog w) hu (fun _ => .nil) q, fun prog w E Q q => PySem.W.keq_ne (knd := mixKind prog w) (r := true) z1 z2 (d1 prog w) (d2 prog w) hu (fun _ => .nil) q⟩
end
section
variable {X : Cx}
theorem op_eqX (hu : X.A.units < cLine) : OpR X (compareOp .Eq) (fun x y H Q => ∃ b, Odd2 X.K x y H b ∧ Q (.bl b) H) := by
  intro pins s σ H x y v u Q I rx ry h
  obtain ⟨b, o, q⟩ := h
  exact (odd_run I hu rx ry o).1 X.prog X.w _ _ ⟨.bl b, H, I, rfl, q⟩
theorem op_neX (hu : X.A.units < cLine) : OpR X (compareOp .NotEq) (fun x y H Q => ∃ b, Odd2 X.K x y H b ∧ Q (.bl (!b)) H) := by
  intro pins s σ H x y v u Q I rx ry h
  obtain ⟨b, o, q⟩ := h
  exact (odd_run I hu rx ry o).2 X.prog X.w _ _ ⟨.bl (!b), H, I, rfl, q⟩
/-- a tuple times one is itself -/
theorem tuple_mul1 (l : Addr) (items : Array Value) (n : Nat) (dd : Option Addr) (sl : Array (Option Value)) (x : Int) (u : Tok) (c0 : (decide (x < -(2 ^ 63)) || decide (x ≥ 2 ^ 63)) = false) (c1 : (items.isEmpty || x == 1) = true) :
    Meets (Builtin.«tuple.__mul__» ⟨[.ref l, .int x u], []⟩) (fun _ R s => s.heap.get? l = some { cls := .type "tuple", dict := dd, data := .seq items n, slots := sl } ∧ R (.ok (.ret (Value.ref l))) s) :=
  .of_wp fun prog w A R s h => by
    obtain ⟨hp, g, d, tk, os⟩ := s
    obtain ⟨hl, h⟩ := h
    have f1 := AutoSeq1.idx_int
    wp_walk using wpAny_loadPart' hl
    repeat (first
      | (refine wpAny_ite_false (decide_eq_false (by rw [c0]; exact Bool.false_ne_true)) ?_; wp_walk using wpAny_loadPart' hl)
      | (refine wpAny_ite_true (decide_eq_true c1) ?_; wp_walk using wpAny_loadPart' hl))
    exact ⟨_, rfl, h⟩
def rRepW (K : PySem.W.Frag) : R2 := fun x y H Q => ∃ l k xs, x = .ref l ∧ y = .int k ∧ SqT K H l xs ∧ xs ≠ [] ∧ 1 ≤ k ∧ k ≤ 1000 ∧ xs.length ≤ 1000 ∧ (k = 1 → Q (.ref l) H) ∧ ∀ p o, o.dict = none → H p = none → Q (.ref p) (upd H p (.frz o (.tup (List.replicate k.toNat xs).flatten)))
theorem op_repW : OpR X (binaryOp .Mult) (rRepW X.K) := by
  intro pins s σ H x y v u Q I rx ry h
  obtain ⟨l, k, xs, rfl, rfl, hT, hne, h1, h2, hz, q1, q⟩ := h
  cases rx
  obtain ⟨t, rfl⟩ := ry
  obtain ⟨its, r, ⟨⟨cls, dd, data, sl⟩, ho, hc, n, hd⟩, hs⟩ := I.tuple hT
  simp only at hc hd
  subst hc hd
  have hle : its.length = xs.length := r.length.symm
  have hn : its ≠ [] := fun e => hne (by
    rw [e] at hle
    exact List.eq_nil_of_length_eq_zero hle.symm)
  have hi : its.toArray.isEmpty = false := by
    cases its with
    | nil => exact absurd rfl hn
    | cons a b => rfl
  have hsz0 : its.toArray.size = xs.length := by rw [List.size_toArray, hle]
  have hm : ((its.toArray.size : Nat) : Int) * k ≤ 1000000 := by
    rw [hsz0]
    have a1 : ((xs.length : Nat) : Int) * k ≤ 1000 * k := Int.mul_le_mul_of_nonneg_right (by omega) (by omega)
    omega
  have flen : (List.replicate k.toNat its).flatten.length ≤ sizeLine := by
    rw [PyProof.Rows.lm_len_rep_flat, hle, sizeLine_eq]
    have a1 : k.toNat * xs.length ≤ 1000 * 1000 := Nat.mul_le_mul (by omega) hz
    omega
  have c0 : (decide (k < -(2 ^ 63)) || decide (k ≥ 2 ^ 63)) = false := by
    rw [decide_eq_false (by omega), decide_eq_false (by omega)] <;> rfl
  by_cases c : k = 1
  · have c1 : (its.toArray.isEmpty || k == 1) = true := by
      rw [hi, Bool.false_or, c]; rfl
    refine wpAny_binaryOp_repeat_ref (T := "tuple") (U := "int") (by decide) ⟨_, ho, rfl⟩ (fun s' => typeIs_int s' k t) noFill_tuple_mul F.fills_int_mul F.slot_int_rmul repeat_tuple F.slot_int_index.lookup
      (call_meets F.slot_int_rmul (typeIs_int s k t) F.entry_int_rmul (F.args_int_rmul_2 _ _) (int_rmul_tuple k t l its.toArray n dd sl)
        ⟨ho, rfl, ⟨_, ho, rfl⟩, call_meets F.slot_tuple_mul ⟨_, ho, rfl⟩ F.entry_tuple_mul (F.args_tuple_mul_2 _ _) (tuple_mul1 l its.toArray n dd sl k t c0 c1) ⟨ho, ?_⟩⟩)
    exact ⟨.ref l, H, I, rfl, q1 c⟩
  have c1 : (its.toArray.isEmpty || k == 1) = false := by
    rw [hi, Bool.false_or]
    exact beq_eq_false_iff_ne.mpr (by omega)
  have c2 : (decide (k ≤ 0) || its.toArray.isEmpty) = false := by
    rw [hi, Bool.or_false]
    exact decide_eq_false (by omega)
  have c4 : Builtin.Tuple.tupleTooMany (((its.toArray.size : Nat) : Int) * k) = false := by
    unfold Builtin.Tuple.tupleTooMany
    rw [sizeLine_eq]
    exact decide_eq_false (by omega)
  refine wpAny_binaryOp_repeat_ref (T := "tuple") (U := "int") (by decide) ⟨_, ho, rfl⟩ (fun s' => typeIs_int s' k t) noFill_tuple_mul F.fills_int_mul F.slot_int_rmul repeat_tuple F.slot_int_index.lookup
    (call_meets F.slot_int_rmul (typeIs_int s k t) F.entry_int_rmul (F.args_int_rmul_2 _ _) (int_rmul_tuple k t l its.toArray n dd sl)
      ⟨ho, rfl, ⟨_, ho, rfl⟩, call_meets F.slot_tuple_mul ⟨_, ho, rfl⟩ F.entry_tuple_mul (F.args_tuple_mul_2 _ _) (tuple_mulW l its.toArray n dd sl k t c0 c1 c2 (by omega) c4 (by rw [size_rep, List.size_toArray]; exact flen)) ⟨ho, ?_⟩⟩)
  rw [size_rep]
  refine ⟨.ref s.heap.objs.size, _, I.laid (t' := s.toks) (o := .frz (seqObj "tuple" (List.replicate k.toNat its).flatten.toArray 0) (.tup (List.replicate k.toNat xs).flatten)) (fun b ob q => Heap.get?_push_of_some _ q) (Nat.le_refl _) ?_, rfl, q _ _ rfl (I.hok.fresh (Nat.le_refl _))⟩
  exact ⟨Heap.get?_push_size _ rfl, by rw [PyProof.Rows.lm_len_rep_flat, sizeLine_eq]; have a1 : k.toNat * xs.length ≤ 1000 * 1000 := Nat.mul_le_mul (by omega) hz; omega, _, r.rep k.toNat, IsTup.new _ _⟩
end
end Zh

/-! Zh13: tuple(..) of a text: its signs. -/
namespace Zh
open PySem PySem.Spec PyProof.Rows L2
open AutoSeq1 (wpAny_loadPart')
section
variable {prog : Program} {w : World} {A : Around} {E : Value → Shared → Prop} {s : Shared}
end
section
variable {X : Cx}
end
end Zh

/-! Zh14: a walk over zip(a, b) whose pair is kept in one name (a, b lists). -/
namespace Zh
open PySem PySem.Spec PyProof.Rows L2
section
variable {prog : Program} {w : World} {A : Around} {E : Value → Shared → Prop} {s : Shared}
/-- a zip whose last pair is told by f0, and a mark f -/
abbrev ZipAt (h : Heap) (z TI TO : Addr) (f0 : Value) (f : Bool) : Prop :=
  h.get? z = some { cls := .type "zip", dict := none, data := .fields #[f0, .bool f, .bool false, .ref TI, .ref TO], slots := #[] }
/-- its last pair is free: none was told, or it is no more -/
def FreeF (h : Heap) (f0 : Value) : Prop := f0 = .none ∨ ∃ T : Addr, f0 = rawInt T ∧ h.get? T = none
theorem is_free {z TI TO : Addr} {f0 : Value} {f : Bool} {Q : Bool → Shared → Prop} (hz : ZipAt s.heap z TI TO f0 f) (fr : FreeF s.heap f0) (h : Q true s) : wpAny (model prog w) A (Builtin.SmallTypes.ownedTupleIsFree (.ref z)) Q E s := by
  unfold Builtin.SmallTypes.ownedTupleIsFree
  rcases fr with rfl | ⟨T, rfl, hT⟩
  · exact wpAny_bind (wpAny_field hz rfl (x := .none) rfl (wpAny_pure h))
  · refine wpAny_bind (wpAny_field hz rfl (x := rawInt T) rfl ?_)
    show wpAny _ _ (loadIfAlive ((T : Int).toNat) >>= _) _ _ _
    rw [Int.toNat_natCast]
    refine wpAny_bind ?_
    have h' : (fun (o : Option Obj) (s' : Shared) => wpAny (model prog w) A (if o.isNone = true then (pure true : Sem Bool) else (field (.ref z) 1 >>= fun x => if (x != Value.bool true) = true then setField (.ref z) 1 (.bool true) >>= fun _ => pure false else pure false)) Q E s') (s.heap.get? T) s := by
      rw [hT]
      exact wpAny_pure h
    exact fun _ _ _ => h'
end
end Zh

/-! Zh15: sets of tuples of ints, of any size below two thousand: the round of i -> 5 i + 1, the table. -/
namespace BigT
open PySem PySem.Spec PyProof.Rows L2
/-! ### x -> 5 x + 1, told in closed form -/
def gee : Nat → Nat
  | 0 => 0
  | n + 1 => 5 * gee n + 1
theorem five_gee : ∀ n, 5 ^ n = 4 * gee n + 1
  | 0 => rfl
  | n + 1 => by
    have := five_gee n
    rw [Nat.pow_succ, this, gee]
    omega
theorem gee_add (a : Nat) : ∀ b, gee (a + b) = 5 ^ b * gee a + gee b
  | 0 => by rw [Nat.pow_zero, Nat.one_mul]; rfl
  | b + 1 => by
    have ih := gee_add a b
    show 5 * gee (a + b) + 1 = 5 ^ (b + 1) * gee a + (5 * gee b + 1)
    rw [ih, Nat.pow_succ, Nat.mul_add, Nat.mul_comm (5 ^ b) 5, Nat.mul_assoc]
    omega
/-- gee of a power of two is it times something odd -/
theorem gee_two : ∀ k, ∃ u, gee (2 ^ k) = 2 ^ k * (2 * u + 1)
  | 0 => ⟨0, rfl⟩
  | k + 1 => by
    obtain ⟨u, e⟩ := gee_two k
    have e2 : gee (2 ^ k + 2 ^ k) = (5 ^ 2 ^ k + 1) * gee (2 ^ k) := by rw [gee_add, Nat.add_mul, Nat.one_mul]
    have e3 : (2 : Nat) ^ (k + 1) = 2 ^ k + 2 ^ k := by rw [Nat.pow_succ]; omega
    refine ⟨2 * (u * gee (2 ^ k)) + u + gee (2 ^ k), ?_⟩
    rw [e3, e2, five_gee]
    generalize gee (2 ^ k) = g at e
    generalize 2 ^ k = A at e
    have h1 : 2 * (2 * (u * g) + u + g) + 1 = (2 * u + 1) * (2 * g + 1) := by
      have : (2 * u) * (2 * g) = (2 * 2) * (u * g) := Nat.mul_mul_mul_comm 2 u 2 g
      have e' : (2 * u + 1) * (2 * g + 1) = 2 * u * (2 * g) + 2 * u + (2 * g + 1) := by rw [Nat.add_mul, Nat.mul_add (2 * u), Nat.one_mul, Nat.mul_one]
      rw [e', this]
      omega
    have h2 : (4 * g + 1 + 1) * g = (g + g) * (2 * g + 1) := by
      have a : (4 * g + 1 + 1) * g = 4 * (g * g) + 2 * g := by
        rw [show 4 * g + 1 + 1 = 4 * g + 2 from rfl, Nat.add_mul, Nat.mul_assoc]
      have b : (g + g) * (2 * g + 1) = 4 * (g * g) + 2 * g := by
        rw [Nat.mul_add, Nat.mul_one, Nat.add_mul, ← Nat.mul_assoc, Nat.mul_comm g 2, Nat.mul_assoc]
        omega
      rw [a, b]
    have h3 : (A + A) * ((2 * u + 1) * (2 * g + 1)) = (g + g) * (2 * g + 1) := by
      rw [← Nat.mul_assoc, Nat.add_mul, ← e]
    rw [h1, h2, h3]
/-- the n-th of the round from i on -/
theorem lcg_is (m i : Nat) (hi : i < m + 1) : ∀ n, lcgI m i n = (5 ^ n * i + gee n) % (m + 1)
  | 0 => by
    show i = (5 ^ 0 * i + 0) % (m + 1)
    rw [Nat.pow_zero, Nat.one_mul, Nat.add_zero, Nat.mod_eq_of_lt hi]
  | n + 1 => by
    show (lcgI m i n * 5 + 1) % (m + 1) = _
    rw [lcg_is m i hi n, Nat.add_mod, Nat.mul_mod, Nat.mod_mod, ← Nat.mul_mod, ← Nat.add_mod]
    congr 1
    show (5 ^ n * i + gee n) * 5 + 1 = 5 ^ (n + 1) * i + (5 * gee n + 1)
    rw [Nat.add_mul, Nat.pow_succ, Nat.mul_right_comm]
    omega
/-- one more round of half the length turns the next bit -/
theorem lcg_flip (k x : Nat) : (5 ^ 2 ^ k * x + gee (2 ^ k)) % 2 ^ (k + 1) = (x + 2 ^ k) % 2 ^ (k + 1) := by
  obtain ⟨u, e⟩ := gee_two k
  have h : 5 ^ 2 ^ k * x + gee (2 ^ k) = x + 2 ^ k + 2 ^ (k + 1) * (2 * (2 * u + 1) * x + u) := by
    rw [five_gee, e, Nat.pow_succ]
    generalize 2 ^ k = A
    have a : (4 * (A * (2 * u + 1)) + 1) * x = 4 * (A * ((2 * u + 1) * x)) + x := by
      rw [Nat.add_mul, Nat.one_mul, Nat.mul_assoc, Nat.mul_assoc]
    have b : A * 2 * (2 * (2 * u + 1) * x + u) = 4 * (A * ((2 * u + 1) * x)) + 2 * (A * u) := by
      rw [Nat.mul_add, Nat.mul_assoc 2 (2 * u + 1) x, ← Nat.mul_assoc (A * 2) 2, Nat.mul_assoc A 2 2, Nat.mul_comm A (2 * 2), Nat.mul_assoc (2 * 2) A, Nat.mul_comm A 2, Nat.mul_assoc 2 A u]
    have c : A * (2 * u + 1) = 2 * (A * u) + A := by
      rw [Nat.mul_add, Nat.mul_one, ← Nat.mul_assoc, Nat.mul_comm A 2, Nat.mul_assoc]
    rw [a, b, c]
    omega
  rw [h, Nat.add_mul_mod_self_left]
theorem iter_add (i a : Nat) : ∀ b, 5 ^ (a + b) * i + gee (a + b) = 5 ^ b * (5 ^ a * i + gee a) + gee b := fun b => by
  rw [gee_add, Nat.mul_add, ← Nat.mul_assoc, ← Nat.pow_add, Nat.add_comm b a]
  omega
theorem mod_cases {x j A : Nat} (hj : j < A * 2) (h : x % A = j % A) : x % (A * 2) = j ∨ (x + A) % (A * 2) = j := by
  have a0 : 0 < A := by omega
  have e := Nat.div_add_mod x (A * 2)
  have lt := Nat.mod_lt x (show 0 < A * 2 by omega)
  generalize x % (A * 2) = r at *
  generalize hq : x / (A * 2) = q at *
  have hr : r % A = j % A := by
    rw [← h, ← e, Nat.mul_assoc, Nat.mul_add_mod]
  have d : ∀ y, y < A * 2 → y % A = if y < A then y else y - A := fun y hy => by
    split
    · rename_i c; exact Nat.mod_eq_of_lt c
    · rename_i c
      rw [Nat.mod_eq_sub_mod (by omega), Nat.mod_eq_of_lt (by omega)]
  rw [d r lt, d j hj] at hr
  by_cases c : r = j
  · exact .inl c
  · right
    have ex : x + A = A * 2 * q + (r + A) := by omega
    rw [ex, Nat.mul_add_mod]
    split at hr <;> split at hr
    · omega
    · rw [Nat.mod_eq_of_lt (by omega)]; omega
    · rw [Nat.mod_eq_sub_mod (by omega), Nat.mod_eq_of_lt (by omega)]; omega
    · omega
/-- from anywhere each slot is met within a round -/
theorem round_all : ∀ (K i j : Nat), j < 2 ^ K → ∃ n, n < 2 ^ K ∧ (5 ^ n * i + gee n) % 2 ^ K = j
  | 0, i, j, hj => ⟨0, by decide, by
    rw [Nat.pow_zero] at hj ⊢
    rw [Nat.mod_one]; omega⟩
  | K + 1, i, j, hj => by
    obtain ⟨n, hn, e⟩ := round_all K i (j % 2 ^ K) (Nat.mod_lt _ (Nat.pow_pos (by decide)))
    rw [Nat.pow_succ] at hj
    rcases mod_cases hj e with c | c
    · exact ⟨n, by rw [Nat.pow_succ]; omega, by rw [Nat.pow_succ]; exact c⟩
    · refine ⟨n + 2 ^ K, by rw [Nat.pow_succ]; omega, ?_⟩
      rw [iter_add, lcg_flip, Nat.pow_succ]
      exact c
theorem full {K m i j : Nat} (hm : m + 1 = 2 ^ K) (hi : i ≤ m) (hj : j ≤ m) : ∃ n, n ≤ m ∧ lcgI m i n = j := by
  obtain ⟨n, h1, h2⟩ := round_all K i j (by omega)
  exact ⟨n, by omega, by rw [lcg_is m i (by omega), hm]; exact h2⟩
/-! ### the table -/
structure Tab (t : SetTable) (hs : List Int) : Prop where
  ris : Ris t.place.toList
  dm : t.dummies = #[]
  sz : t.place.size = hs.length
  pw : ∃ K, 1 ≤ K ∧ K ≤ 11 ∧ t.mask + 1 = 2 ^ K
  bd : ∀ x ∈ t.place.toList, x ≤ t.mask
  reach : ∀ (i : Nat) (h : Int) (j : Nat), hs[i]? = some h → t.place.toList[i]? = some j → ∃ k, way t.mask h k = j ∧ ∀ k', k' < k → way t.mask h k' ∈ t.place.toList
theorem mask_lt {t : SetTable} {hs : List Int} (T : Tab t hs) : t.mask < 2048 ∧ t.mask % 2 = 1 := by
  obtain ⟨K, k1, k2, e⟩ := T.pw
  obtain ⟨k, rfl⟩ : ∃ k, K = k + 1 := ⟨K - 1, by omega⟩
  have le : 2 ^ (k + 1) ≤ 2 ^ 11 := Nat.pow_le_pow_right (by decide) k2
  rw [Nat.pow_succ] at e le
  have : (2 : Nat) ^ 11 = 2048 := by decide
  omega
theorem run_any {K m : Nat} (hm : m + 1 = 2 ^ K) (h : Int) {j : Nat} (hj : j ≤ m) : ∃ n, n ≤ m + 12 ∧ runI m (SetTable.bits h) n = j := by
  obtain ⟨k, hk, e⟩ := full hm (runI_le m (SetTable.bits h) 12) hj
  exact ⟨12 + k, by omega, (runI_tail (bits_lt h) k).trans e⟩
theorem way_any {K m : Nat} (hm : m + 1 = 2 ^ K) (h : Int) {j : Nat} (hj : j ≤ m) : ∃ k, k < 10 * SetTable.turns m ∧ way m h k = j := by
  obtain ⟨n, hn, e⟩ := run_any hm h hj
  obtain ⟨k, hk, e2⟩ := run_nth m (SetTable.bits h) n
  exact ⟨k, by unfold SetTable.turns; omega, by show (nth _ _ _).j = j; rw [e2]; exact e⟩
/-- the first slot on a hash's way that none has -/
theorem Tab.stop {t : SetTable} {hs : List Int} (T : Tab t hs) (room : hs.length ≤ t.mask) (h : Int) : ∃ K, K < 10 * SetTable.turns t.mask ∧ way t.mask h K ∉ t.place.toList ∧ ∀ k, k < K → way t.mask h k ∈ t.place.toList := by
  obtain ⟨Z, _, _, hm⟩ := T.pw
  obtain ⟨j, hj, hn⟩ := st_missing t.place.toList (t.mask + 1) (by rw [Array.length_toList, T.sz]; omega)
  obtain ⟨k, hk, e⟩ := way_any hm h (show j ≤ t.mask by omega)
  obtain ⟨K, a, b, c⟩ := st_least (p := fun q => way t.mask h q ∉ t.place.toList) k (by show _ ∉ _; rw [e]; exact hn)
  exact ⟨K, by omega, b, fun q hq => Classical.byContradiction fun z => c q hq z⟩
/-- one that has the hash comes ahead of that slot -/
theorem Tab.ahead {t : SetTable} {hs : List Int} (T : Tab t hs) {h : Int} {K i j : Nat} (hK : way t.mask h K ∉ t.place.toList) (hi : hs[i]? = some h) (hj : t.place.toList[i]? = some j) : ∃ k, k < K ∧ way t.mask h k = j := by
  obtain ⟨k, e, b⟩ := T.reach i h j hi hj
  have m := List.mem_of_getElem? hj
  refine ⟨k, Nat.not_le.mp fun z => ?_, e⟩
  rcases Nat.lt_or_eq_of_le z with q | q
  · exact hK (b K q)
  · rw [q, e] at hK; exact hK m
/-! ### the table laid anew -/
end BigT

/-! Zh16: a set of tuples of ints, twelve hundred at the most: search, adding. -/
namespace BigT
open PySem PySem.Spec PyProof.Rows L2
section
variable {P : Program} {w : World} {A : Around} {E : Value → Shared → Prop} {s : Shared}
abbrev Keys := List (Addr × List Int)
structure SetB (P : Program) (w : World) (h : Heap) (a : Addr) (L : Keys) (es : Array (Int × Value)) (ep : Nat) (t : SetTable) : Prop where
  ob : ∃ o, h.get? a = some o ∧ o.ExactSet ∧ o.data = .set es ep t
  rows : es.toList = rowsOf P w L
  tab : Tab t (L.map fun p => thash P w p.2)
  nd : (L.map (·.2)).Nodup
  tup : ∀ p ∈ L, IsT P w h p.2 p.1
  plain : t.plain = true
  led : w.params.followText "set-order" = true ∨ t.led = true
  room : L.length * 5 < t.mask * 3
  five : t.mask = 7 ∨ t.mask = 31 ∨ t.mask = 127 ∨ t.mask = 511 ∨ t.mask = 2047
  few : L.length ≤ 1200
variable {a : Addr} {L : Keys} {es : Array (Int × Value)} {ep : Nat} {t : SetTable}
theorem SetB.size (R : SetB P w s.heap a L es ep t) : es.size = L.length := by
  have h := congrArg List.length R.rows
  unfold rowsOf at h
  rwa [Array.length_toList, List.length_map] at h
theorem SetB.entry (R : SetB P w s.heap a L es ep t) {i : Nat} {p : Addr × List Int} (h : L[i]? = some p) : es[i]? = some (thash P w p.2, Value.ref p.1) := by
  rw [← Array.getElem?_toList, R.rows]
  unfold rowsOf
  rw [List.getElem?_map, h]; rfl
theorem SetB.sound (R : SetB P w s.heap a L es ep t) : ¬ t.gaveWay = true := by
  unfold SetTable.gaveWay
  rw [(mask_lt R.tab).2]
  decide
/-- where a hash's search stands behind c steps -/
abbrev stand (m : Nat) (h : Int) (c : Nat) : SetTable.Probe := nth m (runAt m (SetTable.bits h % (m + 1)) (SetTable.bits h)) c
theorem s5 : SetTable.sizeAbove (SetTable.grown 5) = 2 ^ 5 := by decide +kernel
end
end BigT

/-! Zh17: set(xs) and sorted(set) of pairs of ints, twelve hundred at the most. -/
namespace BigT
open PySem PySem.Spec PyProof.Rows L2
section
variable {P : Program} {w : World} {A : Around} {E : Value → Shared → Prop} {s : Shared}
end
end BigT

/-! Zh18: sorted(set) of pairs of ints. -/
namespace BigT
open PySem PySem.Spec PyProof.Rows L2
open PySem.W (EachIs)
section
variable {P : Program} {w : World} {A : Around} {E : Value → Shared → Prop} {s : Shared}
/-! ### sorted -/
def kp (q : Addr × List Int) : Int × Int := (q.2.getD 0 0, q.2.getD 1 0)
end
end BigT

/-! Zh19: set(xs) and sorted(set) of pairs of ints as rules. -/
namespace BigT
open PySem PySem.Spec PyProof.Rows L2
structure SetB0 (P : Program) (w : World) (h : Heap) (a : Addr) (L : Keys) : Prop where
  ex : ∃ (es : Array (Int × Value)) (ep : Nat) (t : SetTable), (∃ o, h.get? a = some o ∧ o.ExactSet ∧ o.data = .set es ep t) ∧ es.toList = rowsOf P w L ∧ Tab t (L.map fun p => thash P w p.2) ∧ (L.map (·.2)).Nodup ∧ t.plain = true ∧
    (w.params.followText "set-order" = true ∨ t.led = true) ∧ L.length * 5 < t.mask * 3 ∧ (t.mask = 7 ∨ t.mask = 31 ∨ t.mask = 127 ∨ t.mask = 511 ∨ t.mask = 2047) ∧ L.length ≤ 1200
theorem SetB.bare {P : Program} {w : World} {h : Heap} {a : Addr} {L : Keys} {es : Array (Int × Value)} {ep : Nat} {t : SetTable} (R : SetB P w h a L es ep t) : SetB0 P w h a L :=
  ⟨es, ep, t, R.ob, R.rows, R.tab, R.nd, R.plain, R.led, R.room, R.five, R.few⟩
theorem SetB0.whole {P : Program} {w : World} {h : Heap} {a : Addr} {L : Keys} (R : SetB0 P w h a L) (ht : ∀ p ∈ L, IsT P w h p.2 p.1) : ∃ es ep t, SetB P w h a L es ep t := by
  obtain ⟨es, ep, t, h1, h2, h3, h4, h5, h6, h7, h8, h9⟩ := R.ex
  exact ⟨es, ep, t, h1, h2, h3, h4, ht, h5, h6, h7, h8, h9⟩
section
variable {X : Cx}
end
end BigT

/-! Zh20: a walk over d.items() of a locked dict, of plain keys or tuple keys. -/
namespace ItX
open PySem PySem.Spec PyProof.Rows L2
section
variable {X : Cx} {pins : List (Addr × Obj)} {σ : L2.St} {H : Hp} {s : Shared} {d : Addr} {o : Obj}
end
section
variable {X : Cx} {e : Expr} {td : TE} {apos cpos : Pos}
end
end ItX

/-! Zh21: list(d.items()), sorted(d.items()), list(zip(a, b)): the pairs are kept as new tuples. -/
namespace PrL
open PySem PySem.Spec PyProof.Rows PySem.Calls L2

/-! ### pairs tracked -/
section
variable {X : Cx} {pins : List (Addr × Obj)} {σ : L2.St} {H0 : Hp} {s : Shared} {h' : Heap} {tk : Nat}
end

/-! ### a dict's raw rows -/
def Its (H : Hp) (d : Addr) (us : List (V × V)) : Prop :=
  (∃ kvs : List (L2.Key × V), H d = some (.dK kvs) ∧ us = kvs.map fun p => (kV p.1, p.2)) ∨
  ∃ kvs : List (List L2.Key × V), H d = some (.dT kvs) ∧ Paired (fun (u : V × V) (p : List L2.Key × V) => ∃ q, u.1 = .ref q ∧ H q = some (.tup (p.1.map kV)) ∧ u.2 = p.2) us kvs
section
variable {X : Cx} {pins : List (Addr × Obj)} {σ : L2.St} {H : Hp} {s : Shared} {d : Addr}
end
/-! ### d.items() -/
section
variable {X : Cx}
end
end PrL

/-! Zh22: list(zip(a, b)) of two lists. -/
namespace PrL
open PySem PySem.Spec PyProof.Rows PySem.Calls L2
def ZS (xs ys : Array Value) (z TI TO i1 i2 l1 l2 S : Addr) (i : Nat) (h : Heap) : Prop := IsPair h TI (.ref i1) (.ref i2) ∧ h.IsListIter i1 l1 i ∧ h.IsListIter i2 l2 i ∧ h.IsList l1 xs ∧ h.IsList l2 ys ∧
  ((IsZip h z TI TO .none ∧ ∃ a b, IsPair h TO a b) ∨ ∃ T f oT, IsZipHeld h z TI TO T f ∧ h.get? T = some oT ∧ T ≠ z ∧ T ≠ i1 ∧ T ≠ i2 ∧ T ≠ S)
structure ZLow (z TI TO i1 i2 l1 l2 S : Addr) : Prop where
  z : z < S
  TI : TI < S
  TO : TO < S
  i1 : i1 < S
  i2 : i2 < S
  l1 : l1 < S
  l2 : l2 < S
theorem adn {a b : Addr} (h : a < b) : a ≠ b := Nat.ne_of_lt h
section
variable {prog : Program} {w : World} {A : Around} {E : Value → Shared → Prop} {s : Shared} {R : Result → Shared → Prop} {xs ys : Array Value} {z TI TO i1 i2 l1 l2 S : Addr} {h h' : Heap} {i : Nat}
theorem ZS.keep (st : ZS xs ys z TI TO i1 i2 l1 l2 S i h) (lo : ZLow z TI TO i1 i2 l1 l2 S) (hk : ∀ b o, b ≠ S → h.get? b = some o → h'.get? b = some o) : ZS xs ys z TI TO i1 i2 l1 l2 S i h' := by
  obtain ⟨hTI, h1, h2, hl1, hl2, hz⟩ := st
  refine ⟨hk _ _ (adn lo.TI) hTI, h1.at fun o e => hk _ o (adn lo.i1) e, h2.at fun o e => hk _ o (adn lo.i2) e, hl1.at fun o e => hk _ o (adn lo.l1) e, hl2.at fun o e => hk _ o (adn lo.l2) e, ?_⟩
  rcases hz with ⟨hz, a, b, hTO⟩ | ⟨T, f, oT, hz, hT, r1, r2, r3, r4⟩
  · exact .inl ⟨hk _ _ (adn lo.z) hz, a, b, hk _ _ (adn lo.TO) hTO⟩
  · exact .inr ⟨T, f, oT, hk _ _ (adn lo.z) hz, hk _ _ r4 hT, r1, r2, r3, r4⟩
theorem ZS.item {Q : Option Value → Shared → Prop} (D : ZipApart z TI TO i1 i2 l1 l2) (st : ZS xs ys z TI TO i1 i2 l1 l2 S i s.heap) (hi : i < min xs.size ys.size) (hS : S < s.heap.objs.size)
    (hQ : ∀ h', ZS xs ys z TI TO i1 i2 l1 l2 S (i + 1) h' → (∃ k v, xs[i]? = some k ∧ ys[i]? = some v ∧ h'.get? s.heap.objs.size = some { cls := .type "tuple", data := .seq #[k, v] }) → h'.objs.size = s.heap.objs.size + 1 →
      (∀ c o, c ≠ z → c ≠ TO → c ≠ i1 → c ≠ i2 → s.heap.get? c = some o → h'.get? c = some o) → Q (some (.ref s.heap.objs.size)) { s with heap := h' }) : wpAny (model prog w) A (pyNext (.ref z)) Q E s := by
  obtain ⟨hTI, h1, h2, hl1, hl2, hz⟩ := st
  have hix : i < xs.size := Nat.lt_of_lt_of_le hi (Nat.min_le_left ..)
  have hiy : i < ys.size := Nat.lt_of_lt_of_le hi (Nat.min_le_right ..)
  have ex := Array.getElem?_eq_getElem hix
  have ey := Array.getElem?_eq_getElem hiy
  have lt : ∀ {c o}, s.heap.get? c = some o → s.heap.objs.size ≠ c := fun e => Nat.ne_of_gt (Heap.lt_size e)
  have n1 : s.heap.objs.size ≠ i1 := let ⟨_, e, _⟩ := h1; lt e
  have n2 : s.heap.objs.size ≠ i2 := let ⟨_, e, _⟩ := h2; lt e
  rcases hz with ⟨hz, a, b, hTO⟩ | ⟨T, f, oT, hz, hT, r1, r2, r3, r4⟩
  · refine wpAny_pyNext_zip_item D hz hTI hTO h1 h2 hl1 hl2 ex ey fun h' a1 a2 a3 a4 a5 a6 hk => ?_
    exact hQ h' ⟨hk _ _ D.TIz D.TITO D.TIi1 D.TIi2 hTI, a3, a4, hl1.at fun o e => hk _ o D.l1z D.l1TO D.l1i1 D.l1i2 e, hl2.at fun o e => hk _ o D.l2z D.l2TO D.l2i1 D.l2i2 e,
        .inr ⟨s.heap.objs.size, false, _, a1, a5, lt hz, n1, n2, Nat.ne_of_gt hS⟩⟩ ⟨_, _, ex, ey, a5⟩ a6 hk
  · refine wpAny_pyNext_zip_item_held D hz hT hTI h1 h2 hl1 hl2 ex ey fun h' a1 a3 a4 a5 a6 hk => ?_
    exact hQ h' ⟨hk _ _ D.TIz D.TIi1 D.TIi2 hTI, a3, a4, hl1.at fun o e => hk _ o D.l1z D.l1i1 D.l1i2 e, hl2.at fun o e => hk _ o D.l2z D.l2i1 D.l2i2 e,
        .inr ⟨T, true, oT, a1, hk _ _ r1 r2 r3 hT, r1, r2, r3, r4⟩⟩ ⟨_, _, ex, ey, a5⟩ a6 fun c o c1 _ c2 c3 e => hk c o c1 c2 c3 e
theorem ZS.done {Q : Option Value → Shared → Prop} (hh : A.handled = none) (D : ZipApart z TI TO i1 i2 l1 l2) (st : ZS xs ys z TI TO i1 i2 l1 l2 S (min xs.size ys.size) s.heap)
    (hQ : ∀ h', (∀ c o, c ≠ z → c ≠ TO → c ≠ i1 → c ≠ i2 → s.heap.get? c = some o → h'.get? c = some o) → Q none { s with heap := h' }) : wpAny (model prog w) A (pyNext (.ref z)) Q E s := by
  obtain ⟨hTI, h1, h2, hl1, hl2, hz⟩ := st
  have hend : xs[min xs.size ys.size]? = none ∨ ys[min xs.size ys.size]? = none := by
    rcases Nat.le_total xs.size ys.size with h | h
    · exact .inl (Array.getElem?_eq_none (by rw [Nat.min_eq_left h]; exact Nat.le_refl _))
    · exact .inr (Array.getElem?_eq_none (by rw [Nat.min_eq_right h]; exact Nat.le_refl _))
  rcases hz with ⟨hz, a, b, hTO⟩ | ⟨T, f, oT, hz, hT, r1, r2, r3, r4⟩
  · exact wpAny_pyNext_zip_end hh D hz hTI hTO h1 h2 hl1 hl2 hend fun h' hk => hQ h' hk
  · exact wpAny_pyNext_zip_end_held hh D hz hT hTI h1 h2 hl1 hl2 hend fun h' hk => hQ h' fun c o c1 _ c2 c3 e => hk c o c1 c2 c3 e

structure ZMade (xs ys : Array Value) (lo : Addr) (h : Heap) (as : List Addr) : Prop where
  rise : as.Pairwise (· < ·)
  above : ∀ a ∈ as, lo < a
  pairs : ∀ (j : Nat) (a : Addr), as[j]? = some a → ∃ k v, xs[j]? = some k ∧ ys[j]? = some v ∧ h.get? a = some { cls := .type "tuple", data := .seq #[k, v] }
theorem ZMade.there {lo : Addr} {as : List Addr} (g : ZMade xs ys lo h as) {a : Addr} (ha : a ∈ as) : a < h.objs.size := by
  obtain ⟨j, hj⟩ := List.mem_iff_getElem?.mp ha
  obtain ⟨_, _, _, _, e⟩ := g.pairs j a hj
  exact Heap.lt_size e
end
section
variable {X : Cx} {e e2 : Expr} {ta : TA} {p p2 q pos : Pos}
end
end PrL

/-! Zh23: a dict display of one pair whose key is a tuple; == and != of two dicts of one pair whose keys are the same tuple and whose values are whole numbers. -/
namespace DQ
open PySem PySem.Spec PyProof.Rows PySem.Calls L2
section
variable {prog : Program} {w : World} {K : Type} [DecidableEq K] {knd : HeapKind prog w K} {A : Around} {E : Value → Shared → Prop} {s : Shared}
theorem one_pairs {nm : String} {a b : Addr} {k : K} {ka kb : Addr} {v u : Value} {r : Bool} {Q : Bool → Shared → Prop} (hu : knd.room A) (ha : (a == sysModules) = false) (hb : (b == sysModules) = false)
    (da : s.heap.DictOfH knd a [(k, ka, v)]) (db : s.heap.DictOfH knd b [(k, kb, u)]) (he : SeqAt.EqAt A s v u r) (h : Q r s) :
    wpAny (model prog w) A (Builtin.Dict.samePairs nm a b) Q E s := by
  obtain ⟨oa, es, ep, hoa, _, hda, hea, hia, hna⟩ := da
  obtain ⟨ob, es', ep', hob, _, hdb, heb, hib, hnb⟩ := db
  have e1 : es = #[entryOfKey knd (k, ka, v)] := by
    obtain ⟨l⟩ := es
    cases (show l = _ from hea)
    rfl
  have e2 : es' = #[entryOfKey knd (k, kb, u)] := by
    obtain ⟨l⟩ := es'
    cases (show l = _ from heb)
    rfl
  subst e1
  subst e2
  unfold Builtin.Dict.samePairs Builtin.Dict.showsAll
  rw [if_neg (show ¬ (a == sysModules) = true by rw [ha]; exact Bool.false_ne_true), if_neg (show ¬ (b == sysModules) = true by rw [hb]; exact Bool.false_ne_true)]
  refine wpAny_bind (wpAny_pure (wpAny_bind (wpAny_pure ?_)))
  refine wpAny_bind (wpAny_dictEntries hoa hda ?_)
  dsimp only
  refine wpAny_bind (wpAny_dictEntries hob hdb ?_)
  rw [if_neg (by simp)]
  refine wpAny_bind (wpAny_dictEpoch hoa hda ?_)
  refine wpAny_bind ?_
  rw [Std.Legacy.Range.forIn_eq_forIn_range']
  simp only [Std.Legacy.Range.size, Nat.sub_zero, Nat.add_sub_cancel, Nat.div_one]
  show wpAny _ _ (forIn [0] _ _) _ _ _
  rw [List.forIn_cons]
  refine wpAny_bind ?_
  refine wpAny_bind (wpAny_dictEntries hoa hda ?_)
  show wpAny _ _ (holding [Value.ref ka, v] _ >>= _) _ _ _
  have hk : knd.is s.heap k ka := hia (k, ka, v) List.mem_cons_self
  refine wpAny_bind (wpAny_holding (wpAny_bind (wpAny_dictFind_heap (xs := [(k, kb, u)]) hu hk hob hdb heb hib hnb ?_ ?_)))
  · intro hno
    exact absurd rfl (hno 0 (kb, u))
  · intro j p hj
    cases j with
    | succ j => cases (show ([] : List (K × Addr × Value))[j]? = some _ from hj)
    | zero =>
      cases (show some (k, kb, u) = some (k, p) from hj)
      refine wpAny_bind (wpAny_dictEntries hob hdb ?_)
      refine wpAny_holding (he prog w _ _ ?_)
      cases r with
      | false =>
        show wpAny _ _ (if (!false) = true then _ else _) _ _ _
        rw [if_pos (by decide)]
        exact wpAny_pure (wpAny_pure (wpAny_pure h))
      | true =>
        show wpAny _ _ (if (!true) = true then _ else _) _ _ _
        rw [if_neg (by decide)]
        refine wpAny_bind (wpAny_dictEpoch hoa hda ?_)
        rw [if_neg (by simp)]
        refine wpAny_pure ?_
        show wpAny _ _ (forIn [] _ _) _ _ _
        rw [List.forIn_nil]
        exact wpAny_pure (wpAny_pure h)
end
section
variable {X : Cx} {pins : List (Addr × Obj)} {σ : L2.St} {H : Hp} {s : Shared}
theorem one_of (I : Inv X pins σ H s) {a : Addr} {k : List L2.Key} {i : Int} (h : H a = some (.dT [(k, .int i)])) : (a == sysModules) = false ∧ ∃ ka t, s.heap.DictOfH (tupleKind (mixKind X.prog X.w)) a [(k, ka, .int i t)] := by
  obtain ⟨z, hd, xs, rel, dd⟩ := dt_of I.hok h
  cases rel with
  | cons p q =>
    rename_i y ys
    cases q
    obtain ⟨k', ka, v⟩ := y
    obtain ⟨e1, e2, e3⟩ := p
    cases (show k = k' from e1)
    obtain ⟨t, e⟩ := (show RelV (.int i) v from e3)
    subst e
    exact ⟨hd, ka, t, dd⟩
def One2 (x y : V) (H : Hp) (b : Bool) : Prop := ∃ a c k i j, x = .ref a ∧ y = .ref c ∧ H a = some (.dT [(k, .int i)]) ∧ H c = some (.dT [(k, .int j)]) ∧ b = decide (i = j)
theorem op_eqO (hu : X.A.units + 65 < cLine) : OpR X (compareOp .Eq) (fun x y H Q => ∃ b, One2 x y H b ∧ Q (.bl b) H) := by
  intro pins s σ H x y v u Q I rx ry h
  obtain ⟨b, ⟨a, c, k, i, j, rfl, rfl, h1, h2, rfl⟩, q⟩ := h
  cases rx
  cases ry
  obtain ⟨z1, ka, t, da⟩ := one_of I h1
  obtain ⟨z2, kc, t2, dc⟩ := one_of I h2
  refine wpAny_richCompare_same_room (op := .Eq) da.typeIs dc.typeIs PySem.F.slot_dict_eq (wpAny_call_entry PySem.F.slot_dict_eq da.typeIs PySem.F.entry_dict_eq ?_ (PySem.F.args_dict_eq_2 _ _)) (by omega)
  show wpAny _ _ (Builtin.Dict.dictSlotArgs "__eq__" ⟨[.ref a, .ref c], []⟩ >>= _) _ _ s
  refine wpAny_bind ?_
  unfold Builtin.Dict.dictSlotArgs
  refine wpAny_bind (wpAny_notOrdered_dict da.typeIs ?_)
  show wpAny _ _ (pure (Value.ref a, Value.ref c)) _ _ s
  refine wpAny_pure ?_
  refine wpAny_bind (wpAny_isInstance (T := "dict") dc.typeIs PySem.F.sub_dict_dict ?_)
  simp only [Bool.not_true, Bool.false_eq_true, if_false]
  refine wpAny_bind (wpAny_pure (wpAny_bind (wpAny_pure ?_)))
  have eq : SeqAt.EqAt X.A.in1 s (.int i t) (.int j t2) (decide (i = j)) := by
    have := SeqAt.EqAt.int_int (A := X.A.in1) (s := s) i t j t2
    rwa [show (i == j) = decide (i = j) from rfl] at this
  refine wpAny_bind (one_pairs (tupleKind_room_in1 (by omega)) z1 z2 da dc eq ?_)
  refine wpAny_pure ⟨_, rfl, ?_, ?_⟩
  · exact fun x => nomatch x
  · exact ⟨.bl (decide (i = j)), H, I, show _ = _ by simp, q⟩
theorem op_neO (hu : X.A.units + 65 < cLine) : OpR X (compareOp .NotEq) (fun x y H Q => ∃ b, One2 x y H b ∧ Q (.bl (!b)) H) := by
  intro pins s σ H x y v u Q I rx ry h
  obtain ⟨b, ⟨a, c, k, i, j, rfl, rfl, h1, h2, rfl⟩, q⟩ := h
  cases rx
  cases ry
  obtain ⟨z1, ka, t, da⟩ := one_of I h1
  obtain ⟨z2, kc, t2, dc⟩ := one_of I h2
  refine wpAny_richCompare_same_room (op := .NotEq) da.typeIs dc.typeIs PySem.F.slot_dict_ne (wpAny_call_entry PySem.F.slot_dict_ne da.typeIs PySem.F.entry_dict_ne ?_ (PySem.F.args_dict_ne_2 _ _)) (by omega)
  show wpAny _ _ (Builtin.Dict.dictSlotArgs "__ne__" ⟨[.ref a, .ref c], []⟩ >>= _) _ _ s
  refine wpAny_bind ?_
  unfold Builtin.Dict.dictSlotArgs
  refine wpAny_bind (wpAny_notOrdered_dict da.typeIs ?_)
  show wpAny _ _ (pure (Value.ref a, Value.ref c)) _ _ s
  refine wpAny_pure ?_
  refine wpAny_bind (wpAny_isInstance (T := "dict") dc.typeIs PySem.F.sub_dict_dict ?_)
  simp only [Bool.not_true, Bool.false_eq_true, if_false]
  refine wpAny_bind (wpAny_pure (wpAny_bind (wpAny_pure ?_)))
  have eq : SeqAt.EqAt X.A.in1 s (.int i t) (.int j t2) (decide (i = j)) := by
    have := SeqAt.EqAt.int_int (A := X.A.in1) (s := s) i t j t2
    rwa [show (i == j) = decide (i = j) from rfl] at this
  refine wpAny_bind (one_pairs (tupleKind_room_in1 (by omega)) z1 z2 da dc eq ?_)
  refine wpAny_pure ⟨_, rfl, ?_, ?_⟩
  · exact fun x => nomatch x
  · exact ⟨.bl (!decide (i = j)), H, I, show _ = _ by simp, q⟩
end
end DQ

/-! Zh24: the law's end for a def that makes lambdas, whether it leans on nothing being shown or not. -/
namespace Zh
open PySem PySem.Spec PyProof.Rows L2 Att

/-- nothing is tracked but the script and the maker's table -/
structure OnlyT (H : Hp) (P : Addr) : Prop where
  tab : H P = some (.tbl #[])
  rest : ∀ b, b ≠ P → H b = none ∨ ∃ o xs, H b = some (.frz o (.lst xs))
theorem top_coreT {P : Program} {w : World} {K : PySem.W.Frag} {mg mb : Str → Option Value} {CX : CXT} {fa a c T : Addr} {fd : FuncData} {x : Str} {sp : Sp} {s : Shared} {vs : List Value} {ns : List Int} {H : Hp}
    (inK : K.In s.heap) (hm : s.heap.Ns mainGlobals mg) (hb : s.heap.Ns builtinsNs mb) (boot : ∀ x : Str, x ≠ "__name__" → mb x = bootBuiltins x) (free : s.heap.NoLimit) (gens : s.gens = #[])
    (script : s.heap.get? a = some { cls := .type "list", data := .seq vs.toArray })
    (tabl : s.heap.get? T = some { cls := .none, data := .fields #[] }) (noK : K.lookup T = none) (code : PySem.W.CodeHd s.heap c T)
    (main : ∃ (bm : Addr) (ob : Obj), mg "__builtins__" = some (.ref bm) ∧ bm ≠ builtinsNs ∧ s.heap.get? bm = some ob ∧ ob.cls = .type "module" ∧ ob.dict = some builtinsNs ∧ ob.data = .plain)
    (F : ∀ base : Heap, K.In base → base.Ns mainGlobals mg → LamX.TabB base mg c T → (∃ (o : Obj) (es : Array DictEntry) (ep : Nat), base.get? sysModules = some o ∧ o.data = .dict es ep) → TopOk P w K mg base CX fa fd x sp) (mods : ∃ (o : Obj) (es : Array DictEntry) (ep : Nat), s.heap.get? sysModules = some o ∧ o.data = .dict es ep) (bd : ∀ u : Value, BindsTo s fd ⟨[u], []⟩ [(x, u)])
    (want : sp [.ref a] H (fun v _ => v = .bl true) fun _ _ _ => False) (noexc : ∀ e s', CX [] H s (fun _ _ _ => False) e s' → False)
    (only : OnlyT H T) (ok : HOk P w H s.heap) (alone : ∀ b, b ≠ a → b ≠ T → H b = none) (own : H a = none ∨ K.lookup a = none) :
    codeAny (model P w) callerA (.call (.ref fa) ⟨[.ref a], []⟩) (fun r s' => r = .ok (.ret (.bool true)) ∧ OldK s.heap s'.heap ∧ s'.os = s.os ∧ AllBare s'.gens) s := by
  have still : ∀ {b : Addr} {o : Obj}, H b = none → s.heap.get? b = some o → (hidT s.heap H).get? b = some o := fun n e => hidT_get e n
  have free1 : ∀ {b : Addr} {o : Obj}, s.heap.get? b = some o → (∀ vs n, o.data ≠ .seq vs n) → o.data ≠ .fields #[] → H b = none := by
    intro b o e h1 h2
    refine alone b (fun z => ?_) fun z => ?_
    · subst z
      rw [script] at e
      cases e
      exact h1 _ _ rfl
    · subst z
      rw [tabl] at e
      cases e
      exact h2 rfl
  have names : ∀ {b : Addr} {m : Str → Option Value}, s.heap.Ns b m → (hidT s.heap H).Ns b m := by
    rintro b m ⟨o, es, ep, e, d, r⟩
    exact ⟨o, es, ep, still (free1 e (by rw [d]; intro _ _ z; cases z) (by rw [d]; intro z; cases z)) e, d, r⟩
  have inB : K.In (hidT s.heap H) := fun b o e => still (by
    by_cases z : b = a
    · subst z
      rcases own with q | q
      · exact q
      · rw [show K.lookup b = some o from e] at q
        cases q
    · refine alone b z fun z2 => ?_
      subst z2
      rw [show K.lookup b = some o from e] at noK
      cases noK) (inK b o e)
  have TB : LamX.TabB (hidT s.heap H) mg c T := by
    refine ⟨?_, ?_, fun z => ?_⟩
    · obtain ⟨o, us, file, tf, flags, tg, inF, text, tt, e1, r1, r2, r3, r⟩ := code
      refine ⟨o, us, file, tf, flags, tg, inF, text, tt, still (free1 e1 (by rw [r2]; intro _ _ z; cases z) ?_) e1, r1, r2, r3, r⟩
      rw [r2]
      intro z
      cases z
      simp at r3
    · obtain ⟨bm, ob, b1, b2, b3, b4, b5, b6⟩ := main
      refine ⟨bm, ob, b1, b2, fun q => ?_, fun q => ?_, still (free1 b3 (by rw [b6]; intro _ _ z; cases z) (by rw [b6]; intro z; cases z)) b3, b4, b5, b6⟩
      · obtain ⟨o, es, ep, e, hd, _⟩ := hm
        rw [q, e] at b3
        cases b3
        rw [hd] at b6
        cases b6
      · rw [q, tabl] at b3
        cases b3
        cases b6
    · obtain ⟨o, es, ep, e, hd, _⟩ := hm
      rw [z, tabl] at e
      cases e
      cases hd
  have sm : ∃ (o : Obj) (es : Array DictEntry) (ep : Nat), (hidT s.heap H).get? sysModules = some o ∧ o.data = .dict es ep := by
    obtain ⟨o, es, ep, e, d⟩ := mods
    refine ⟨o, es, ep, still (free1 e (by rw [d]; intro _ _ z; cases z) (by rw [d]; intro z; cases z)) e, d⟩
  obtain ⟨mc, l1, l2⟩ := free
  have en : Env0 P w K mg (hidT s.heap H) callerA [] s H :=
    { frames := rfl, mod := ⟨inB, names hm, ⟨mb, names hb, boot⟩, ⟨mc, names l1, l2⟩⟩, bs := fun b o e => of_hidT e, bsz := Nat.le_of_eq (hidT_size _ _), funs := trivial, frf := fun b z => absurd z List.not_mem_nil, hok := ok, bare := .of_eq gens }
  refine codeAny_mono (F _ inB (names hm) TB sm s H (.ref a) (.ref a) _ _ en (bd _) rfl want) fun r s' h => ?_
  match r, h with
  | .error e, h => exact (noexc e s' h).elim
  | .ok .next, h => exact h.elim
  | .ok .brk, h => exact h.elim
  | .ok .cont, h => exact h.elim
  | .ok (.ret u), ⟨v, H', os, bare, un, ok', rel, eq⟩ =>
    obtain rfl : v = .bl true := eq
    obtain rfl : u = Value.bool true := rel
    have kept : ∀ b o, b ≠ T → s.heap.get? b = some o → s'.heap.get? b = some o := fun b o nb e => by
      rcases only.rest b nb with n | ⟨ob, xs, n⟩
      · exact un.keep b o e n (fun z => nomatch z) (fun z => nomatch z)
      · have old := (ok b _ n).1
        rw [e] at old
        cases old
        exact (ok' b _ (un.frzs b _ _ n)).1
    obtain ⟨more, grown⟩ := un.tbls T #[] only.tab
    have grown := ok' T _ grown
    refine ⟨rfl, ⟨fun b o e => ?_, fun b o e => ?_⟩, os, bare⟩
    · by_cases z : b = T
      · subst z
        rw [tabl] at e
        cases e
        exact .inr (.inl ⟨(code.tab tabl).isCodeTable, rfl, #[], more, rfl, by rw [Array.empty_append] at grown ⊢; exact grown⟩)
      · exact .inl (kept b o z e)
    · by_cases z : b = T
      · subst z
        exact ⟨_, grown⟩
      · exact ⟨o, kept b o z e⟩
/-- the goal that k_head leaves, for a law's def that makes lambdas -/
theorem walk_topT {l : PySem.W.OpenLaw} {n : Nat} {q : Program} {loose : List Str} {XP : (Str → Option Value) → Heap → Prop} {YP : World → Heap → Prop} {d : DefRec} {K : Params → PySem.W.Frag} {CX : World → CXT} {x : Str}
    (most : l.most = some n) (line : n ≤ sizeLine) (plain : d.params.defaults = []) (noimp : importsNone q = true) (hY : ∀ (w : World) (h : Heap), YP w h → (K w.params).In h)
    (F : ∀ (w : World) (mg : Str → Option Value) (fa : Addr) (h : Heap), YP w h → (K w.params).In h → h.Ns mainGlobals mg → mg d.name = some (.ref fa) →
      ∃ (fd : FuncData) (c T : Addr) (sp : Sp), h.get? T = some { cls := .none, data := .fields #[] } ∧ (K w.params).lookup T = none ∧ PySem.W.CodeHd h c T ∧ (∀ (s : Shared) (u : Value), BindsTo s fd ⟨[u], []⟩ [(x, u)]) ∧
        (∀ (H : Hp) (a : Addr) (ns : List Int), ns.length ≤ n → OnlyT H T → SqL (K w.params) H a (ns.map V.int) → sp [.ref a] H (fun v _ => v = .bl true) fun _ _ _ => False) ∧
        ∀ base : Heap, (K w.params).In base → base.Ns mainGlobals mg → LamX.TabB base mg c T → (∃ (o : Obj) (es : Array DictEntry) (ep : Nat), base.get? sysModules = some o ∧ o.data = .dict es ep) → TopOk l.prog w (K w.params) mg base (CX w) fa fd x sp)
    (noexc : ∀ (w : World) (H : Hp) (s : Shared) (e : Value) (s' : Shared), CX w [] H s (fun _ _ _ => False) e s' → False) :
    PySem.W.WalkO q loose XP YP l.row.toRowW d [] (fun f vs => PySem.call f vs) := by
  refine Att.attach_call most plain fun w s₀ s₁ mg mb fa o pm cd doc a vs ns G Y _ _ _ hmg script vals few gens => ?_
  have inK := hY w _ Y
  obtain ⟨fd, c, T, sp, tabl, noK, code, bd, want, F⟩ := F w mg fa _ Y inK G.T.g hmg
  have rv := vals_ints vals
  have short := Nat.le_trans few line
  have mods : ∃ (o : Obj) (es : Array DictEntry) (ep : Nat), s₁.heap.get? sysModules = some o ∧ o.data = .dict es ep := by
    obtain ⟨mm, ⟨o, es, ep, e, d, _⟩, _⟩ := (G.T.seer noimp).mods
    exact ⟨o, es, ep, e, d⟩
  have core := fun H => top_coreT (H := H) (ns := ns) inK G.T.g G.T.b G.T.builtins G.T.nolimit gens script tabl noK code G.T.bmain F mods (bd s₁)
  have aT : a ≠ T := fun z => by
    subst z
    rw [script] at tabl
    have z' : Data.seq vs.toArray _ = Data.fields #[] := congrArg Obj.data (Option.some.inj tabl)
    cases z'
  cases own : (K w.params).lookup a with
  | some o =>
    have same := inK a o own
    rw [script] at same
    cases same
    let H : Hp := fun b => if b = T then some (.tbl #[]) else none
    have at_T : H T = some (.tbl #[]) := if_pos rfl
    have off : ∀ b, b ≠ T → H b = none := fun b z => if_neg z
    have known : SqL (K w.params) H a (ns.map V.int) := .inr ⟨_, vs.toArray, _, own, rfl, rfl, rfl, by rw [List.size_toArray, vals.length]; exact short, by simpa using rv⟩
    have only : OnlyT H T := ⟨at_T, fun b z => .inl (off b z)⟩
    have ok : HOk l.prog w H s₁.heap := fun b u e => by
      by_cases z : b = T
      · subst z
        rw [at_T] at e
        cases e
        exact tabl
      · rw [off b z] at e
        cases e
    exact core H (want H a ns few only known) (noexc w H s₁) only ok (fun b _ z => off b z) (.inl (off a aT))
  | none =>
    let H : Hp := fun b => if b = a then some (.frz { cls := .type "list", data := .seq vs.toArray } (.lst (ns.map V.int))) else if b = T then some (.tbl #[]) else none
    have at_a : H a = some (.frz { cls := .type "list", data := .seq vs.toArray } (.lst (ns.map V.int))) := if_pos rfl
    have at_T : H T = some (.tbl #[]) := (if_neg (Ne.symm aT)).trans (if_pos rfl)
    have off : ∀ b, b ≠ a → b ≠ T → H b = none := fun b z z2 => (if_neg z).trans (if_neg z2)
    have only : OnlyT H T := ⟨at_T, fun b z2 => (Decidable.em (b = a)).elim (fun z => .inr ⟨{ cls := .type "list", data := .seq vs.toArray }, ns.map V.int, z ▸ at_a⟩) fun z => .inl (off b z z2)⟩
    have ok : HOk l.prog w H s₁.heap := fun b u e => by
      by_cases z : b = a
      · subst z
        rw [at_a] at e
        cases e
        exact ⟨script, by rw [List.length_map]; exact short, vs, _, rv, script⟩
      · by_cases z2 : b = T
        · subst z2
          rw [at_T] at e
          cases e
          exact tabl
        · rw [off b z z2] at e
          cases e
    exact core H (want H a ns few only (.inl (.inr ⟨_, at_a⟩))) (noexc w H s₁) only ok off (.inr own)
end Zh

/-! Zh25: sorted(xs, key=f), where f is any call that keeps the invariant. -/
namespace Zh
open PySem PySem.W PySem.Calls PyProof.Rows L2

section
variable {X : Cx} {pins : List (Addr × Obj)} {σ : L2.St} {H : Hp} {s : Shared}
end
end Zh

/-! Zh26: a lambda of one parameter, called. -/
namespace Zh
open PySem PySem.W PySem.Calls PyProof.Rows L2 LamX

/-- a lambda's names: its one parameter a, captured ones and globals -/
structure LamS1 (sc scope : Scope) (a : Str) : Prop where
  kind : scope.kind = .function
  co : scope.isCoroutine = false
  gen : scope.isGenerator = false
  par : scope.names.lookup a = some .local
  own : ∀ y ∈ scope.names, y.2 ≠ .cell ∧ (y.2 = .local → y.1 = a)
  free : ∀ y ∈ scope.names, y.2 = .free → sc.names.lookup y.1 = some .cell ∨ sc.names.lookup y.1 = some .free
theorem LamS1.has {X : Cx} {scope : Scope} {a : Str} (L : LamS1 X.env.scope scope a) (ok : X.Ok) : ∀ y ∈ scope.names, y.2 = .free → ∃ c, X.env.cells.lookup y.1 = some c := fun y hy e => by
  rcases L.free y hy e with k | k
  · exact ok.has _ (.inl k)
  · exact ok.has _ (.inr k)
section
variable {X : Cx} {pins : List (Addr × Obj)} {σ : L2.St} {H HZ : Hp} {s s1 : Shared}
end
end Zh

/-! Zh27: list(reversed(a list)). -/
namespace Zh
open PySem PyProof.Rows L2 RT

section
variable {prog : Program} {w : World} {A : Around} {E : Value → Shared → Prop} {s : Shared}
end
section
variable {X : Cx}
end
end Zh

/-! Zh28: d.setdefault(k, x) of a tracked dict, str(..) of numbers and texts, enumerate(.., start=k). -/
namespace Zh
open PySem PySem.Spec PyProof.Rows L2

section
variable {X : Cx} {pins : List (Addr × Obj)} {σ : L2.St} {H : Hp} {s : Shared} {a : Addr} {v : V} {u r : Value} {kvs : List (Key × V)} {k : Key} {A : Around} {E : Value → Shared → Prop}
end

section
variable {X : Cx}
end

section
variable {M : Model} {A : Around} {E : Value → Shared → Prop} {s : Shared} {env : PySem.Env}
end

end Zh

/-! Zh29: dict(..) of a list of pairs whose keys are tuples of numbers and texts. -/
namespace Zh
open PySem PySem.Spec PyProof.Rows L2
section
variable {X : Cx}
end
end Zh

/-! Zh30: set(..) of a tuple of keys (as Zh2 has it of a list). -/
namespace Zh
open PySem PySem.Spec PyProof.Rows L2
section
variable {P : Program} {w : World} {A : Around} {E : Value → Shared → Prop} {s : Shared}
theorem keys_initT {S l : Addr} {led : Bool} {items : Array Value} {ks : List Key} {Q : Shared → Prop} (hh : A.handled = none) (hset : s.heap.get? S = some { cls := .type "set", dict := none, data := .set #[] 0 (.fresh 0 0 led) }) (hne : l ≠ S) (hl : s.heap.IsTuple l items) (hz : ks.length = items.size) (hv : ∀ (i : Nat) v, items[i]? = some v → ∃ k, ks[i]? = some k ∧ RelV (kV k) v) (room : ks.length + 1 < scanBound)
    (out : ∀ h' tk, h'.SetOf (mixKind P w) S (inFirst ks) (firsts ks).length → (∀ b o, b ≠ S → s.heap.get? b = some o → h'.get? b = some o) → Q { s with heap := h', toks := tk }) :
    codeAny (model P w) A (.call (.builtin "set.__init__") ⟨[.ref S, .ref l], []⟩) (wants (fun r t => r = .none ∧ Q t) E) s := by
  refine codeAny_call_builtin PySem.F.called_set.init.plain PySem.F.entry_set_init (check_set_init_1 ⟨_, hset, rfl⟩ ?_)
  obtain ⟨o, ho, hc, k, hd⟩ := hl
  have e1 := PySem.F.sub_tuple_set
  have e2 := PySem.F.sub_tuple_frozenset
  have e3 : (Value.type "tuple" == Value.type "dict") = false := by decide
  have hlt : s.TypeIs (.ref l) "tuple" := ⟨o, ho, hc⟩
  have hil : s.heap.IsTuple l items := ⟨o, ho, hc, k, hd⟩
  obtain ⟨c, dc, dt, sl⟩ := o
  simp only at hc hd
  subst hc hd
  obtain ⟨hp, g, dr, tk0, os⟩ := s
  unfold Builtin.«set.__init__» noKeywords Builtin.Frozenset.updateFrom
  generalize hPI : pyIter = PI
  wp_walk
  subst hPI
  refine wpAny_pyIter_tuple hil ?_
  refine wpAny_bind (wpAny_runValue ?_)
  have hll : l < hp.objs.size := Heap.lt_size ho
  have h3 : A.in1.in1.handled = none := by simp [hh]
  have nI : l ≠ hp.objs.size := Nat.ne_of_lt hll
  have nS : S ≠ hp.objs.size := Nat.ne_of_lt (Heap.lt_size hset)
  refine keys_loop ((Walks.tuple h3 hp.objs.size l nI items).toS) S (by simp only [List.mem_cons, List.mem_singleton, List.not_mem_nil, or_false, not_or]; exact ⟨nS, fun z => hne z.symm⟩) ks hz (fun i v h => hv i v h) (by omega) (items.size - 0) 0 _ (by omega) (Nat.zero_le _) ?_ ?_ fun t mv hS' => ?_
  · exact ⟨⟨_, Heap.get?_push_size _ rfl, rfl, rfl⟩, hil.push _⟩
  · rw [show inFirst (ks.take 0) = fun _ => false from funext fun j => by rw [List.take_zero]; rfl, show (firsts (ks.take 0)).length = 0 from by rw [List.take_zero]; rfl]
    exact ⟨_, #[], 0, _, Heap.get?_push_of_some _ hset, ⟨rfl, rfl, rfl⟩, rfl, fun e he => by simp at he, fun k => by simp, by decide, by rfl, rfl⟩
  · obtain ⟨h', g', d', tk', os'⟩ := t
    obtain rfl : g' = g := mv.gens
    obtain rfl : d' = dr := mv.drawn
    obtain rfl : os' = os := mv.os
    refine wpAny_pure (wpAny_pure ⟨rfl, out h' tk' hS' fun b o nb e => mv.heap b o ?_ (Heap.get?_push_of_some _ e)⟩)
    simp only [List.mem_cons, List.mem_singleton, List.not_mem_nil, or_false, not_or]
    exact ⟨nb, Nat.ne_of_lt (Heap.lt_size e)⟩
theorem call_keysT {l : Addr} {items : Array Value} {ks : List Key} {Q : Value → Shared → Prop} (hh : A.handled = none) (hl : s.heap.IsTuple l items) (hz : ks.length = items.size) (hv : ∀ (i : Nat) v, items[i]? = some v → ∃ k, ks[i]? = some k ∧ RelV (kV k) v) (room : ks.length + 1 < scanBound)
    (out : ∀ h' tk, h'.SetOf (mixKind P w) s.heap.objs.size (inFirst ks) (firsts ks).length → (∀ b o, s.heap.get? b = some o → h'.get? b = some o) → Q (.ref s.heap.objs.size) { s with heap := h', toks := tk }) :
    wpAny (model P w) A (call (.type "set") [.ref l]) Q E s := by
  obtain ⟨c, tl, k0⟩ := PySem.F.called_set.mro
  have k1 := PySem.F.called_set.made
  have k2 := PySem.F.called_set.sub
  refine wpAny_call (codeAny_of_tree ?_)
  show wpAny (model P w) _ (callAny (.type "set") _) _ _ _
  refine wpAny_pure ⟨Code.quiet_builtin _ (by decide +kernel), codeAny_builtin PySem.F.entry_type_call ?_⟩
  rw [Around.under_plain (weight_type_call_type "set" [.ref l] []) rfl]
  have k3 := PySem.F.called_set.notType
  have k4 := PySem.F.called_set.canCreate
  have k5 := PySem.F.typeCall_set_1 (.ref l)
  repeat (any_goals (first | assumption | wp_step))
  refine codeAny_mono (code_set_new_1 (.ref l) (E := E) (Q₁ := fun v t => ∃ led : Bool, v = .ref s.heap.objs.size ∧ t = { s with heap := s.heap.push { cls := .type "set", dict := none, data := .set #[] 0 (.fresh 0 0 led) } }) fun led => ⟨led, rfl, rfl⟩) fun r t hr => ?_
  match r, hr with
  | .error e, hr => exact hr
  | .ok (.ret v), ⟨led, hv1, hv2⟩ =>
    subst hv1 hv2
    have hset : (s.heap.push { cls := .type "set", dict := none, data := .set #[] 0 (.fresh 0 0 led) }).get? s.heap.objs.size = some { cls := .type "set", dict := none, data := .set #[] 0 (.fresh 0 0 led) } := Heap.get?_push_size _ rfl
    have hT : Shared.TypeIs { s with heap := s.heap.push { cls := .type "set", dict := none, data := .set #[] 0 (.fresh 0 0 led) } } (.ref s.heap.objs.size) "set" := ⟨_, hset, rfl⟩
    have k6 := PySem.F.called_set.init.lookup
    have k7 := PySem.F.called_set.init.bind (.ref s.heap.objs.size)
    repeat (any_goals (first | assumption | wp_step))
    have ll : l < s.heap.objs.size := let ⟨o, ho, _⟩ := hl; Heap.lt_size ho
    refine codeAny_mono (keys_initT (E := E) (Q := fun t => Q (.ref s.heap.objs.size) t) (by simp [hh]) hset (Nat.ne_of_lt ll) (hl.push _) hz hv room fun h' tk hS k => out h' tk hS fun b o e => k b o (Nat.ne_of_lt (Heap.lt_size e)) (Heap.get?_push_of_some _ e)) fun r t hr => ?_
    match r, hr with
    | .error e, hr => exact hr
    | .ok (.ret v), ⟨e, q⟩ =>
      subst e
      repeat (any_goals (first | assumption | wp_step))
end
section
variable {X : Cx}
def rSetKeysT (P : Program) (w : World) (K : PySem.W.Frag) : List V → Hp → VK → Prop := fun vs H Q => ∃ (a : Addr) (ks : List Key), vs = [V.ref a] ∧ SqT K H a (ks.map kV) ∧ ks.length + 1 < scanBound ∧ ∀ p, H p = none → Q (.ref p) (upd H p (SetK P w p (inFirst ks) (firsts ks).length))
theorem cr_setKeysT (hc : X.calm = true) : CallR X (.type "set") (rSetKeysT X.prog X.w X.K) := by
  intro pins s σ H vs us Q I r ⟨a, ks, ev, hs, room, q⟩
  subst ev
  obtain ⟨its, rv, pl, hz⟩ := I.tuple hs
  rw [Vals.ref1 r]
  have ln : (ks.map kV).length = its.length := rv.length
  rw [List.length_map] at ln
  refine call_keysT (ks := ks) (I.ok.hd hc) (show s.heap.IsTuple a its.toArray from pl) (by simpa using ln) (fun i v e => ?_) room fun h' tk hS k => ?_
  · rw [List.getElem?_toArray] at e
    obtain ⟨hi, _⟩ := List.getElem?_eq_some_iff.mp e
    have hi' : i < ks.length := by omega
    obtain ⟨u, hu, ru⟩ := rv.get (i := i) (x := kV ks[i]) (by simp [hi'])
    rw [e] at hu
    cases hu
    exact ⟨ks[i], List.getElem?_eq_getElem hi', ru⟩
  · exact ⟨.ref s.heap.objs.size, _, I.laid (t' := tk) k (Nat.le_refl _) (setK_new hS), rfl, q _ (I.hok.fresh (Nat.le_refl _))⟩
end
end Zh

/-! Zh31: as Zh14, of lists and tuples, whichever. -/
namespace Zh
open PySem PySem.Spec PyProof.Rows L2
section
variable {prog : Program} {w : World} {A : Around} {E : Value → Shared → Prop} {s : Shared}
theorem itB_ext {t : Bool} {b : Addr} {h h' : Heap} {i a : Addr} {k : Nat} (x : itB t h i a k) (e : Heap.ExtBut b h h') (n : i ≠ b) : itB t h' i a k := itB_at x fun o q => e i o n q
theorem atB_ext {t : Bool} {b : Addr} {h h' : Heap} {a : Addr} {its : Array Value} (x : atB t h a its) (e : Heap.ExtBut b h h') (n : a ≠ b) : atB t h' a its := atB_at x fun o q => e a o n q
theorem nextB_item {t : Bool} {it l : Addr} {i : Nat} {items : Array Value} {x : Value} {Q : Value → Shared → Prop} (hit : itB t s.heap it l i) (hl : atB t s.heap l items) (hx : items[i]? = some x)
    (hQ : ∀ h', itB t h' it l (i + 1) → Heap.SameBut it s.heap h' → Q x { s with heap := h' }) : wpAny (model prog w) A (Builtin.SmallTypes.nextOf (.ref it)) Q E s := by
  cases t with
  | false => exact wpAny_nextOf_list_item hit hl hx hQ
  | true => exact wpAny_nextOf_tuple_item hit hl hx hQ
theorem nextB_end {t : Bool} {it l : Addr} {i : Nat} {items : Array Value} {Q : Value → Shared → Prop} (hh : A.handled = none) (hit : itB t s.heap it l i) (hl : atB t s.heap l items) (hx : items[i]? = none)
    (hE : ∀ h' e, Heap.ExtBut it s.heap h' → (∃ o, h'.get? e = some o ∧ o.cls = .type "StopIteration") → E (.ref e) { s with heap := h' }) : wpAny (model prog w) A (Builtin.SmallTypes.nextOf (.ref it)) Q E s := by
  cases t with
  | false => exact wpAny_nextOf_list_end hh hit hl hx hE
  | true => exact wpAny_nextOf_tuple_end hh hit hl hx hE
/-- the last pair is still held: the next one -/
theorem next_heldB {t u : Bool} {z TI TO T i1 i2 l1 l2 : Addr} {f : Bool} {oT : Obj} {k1 k2 : Nat} {xs ys : Array Value} {x y : Value} {Q : Value → Shared → Prop} (D : ZipApart z TI TO i1 i2 l1 l2)
    (hz : ZipAt s.heap z TI TO (rawInt T) f) (hT : s.heap.get? T = some oT) (hTI : IsPair s.heap TI (.ref i1) (.ref i2))
    (h1 : itB t s.heap i1 l1 k1) (h2 : itB u s.heap i2 l2 k2) (hl1 : atB t s.heap l1 xs) (hl2 : atB u s.heap l2 ys) (hx : xs[k1]? = some x) (hy : ys[k2]? = some y)
    (hQ : ∀ h', ZipAt h' z TI TO (rawInt T) true → itB t h' i1 l1 (k1 + 1) → itB u h' i2 l2 (k2 + 1) → IsPair h' s.heap.objs.size x y → h'.objs.size = s.heap.objs.size + 1 →
      (∀ c o, c ≠ z → c ≠ i1 → c ≠ i2 → s.heap.get? c = some o → h'.get? c = some o) → Q (.ref s.heap.objs.size) { s with heap := h' }) :
    wpAny (model prog w) A (Builtin.«zip.__next__» ⟨[.ref z], []⟩) (fun fin s' => ∃ v, fin = .done (.ret v) ∧ Q v s') E s := by
  show wpAny _ _ (field (.ref z) 2 >>= _) _ _ _
  refine wpAny_bind (wpAny_field hz rfl (x := .bool false) rfl ?_)
  show wpAny _ _ (field (.ref z) 3 >>= _) _ _ _
  refine wpAny_bind (wpAny_field hz rfl (x := .ref TI) rfl (wpAny_bind (wpAny_seqItems hTI rfl ?_)))
  show wpAny _ _ (Builtin.SmallTypes.ownedTupleIsFree (.ref z) >>= _) _ _ _
  refine wpAny_bind (wpAny_tupleHeld_zip (show IsZipHeld s.heap z TI TO T f from hz) hT fun g1 z1 b1 => ?_)
  replace z1 : ZipAt g1 z TI TO (rawInt T) true := z1
  simp only [Bool.false_eq_true, if_false]
  refine wpAny_bind ?_
  rw [← Array.forIn_toList]
  simp only [List.forIn_cons, List.forIn_nil]
  refine wpAny_bind (wpAny_bind (wpAny_holding ?_))
  show wpAny _ _ (Builtin.SmallTypes.nextOf (.ref i1) >>= _) _ _ _
  refine wpAny_bind (nextB_item (s := { s with heap := g1 }) (itB_ext h1 b1.extBut D.i1z) (atB_ext hl1 b1.extBut D.l1z) hx fun g2 i12 b2 => wpAny_pure (wpAny_pure ?_))
  refine wpAny_bind (wpAny_bind (wpAny_holding ?_))
  show wpAny _ _ (Builtin.SmallTypes.nextOf (.ref i2) >>= _) _ _ _
  refine wpAny_bind (nextB_item (s := { s with heap := g2 }) (itB_ext (itB_ext h2 b1.extBut D.i2z) b2.extBut D.i12.symm) (atB_ext (atB_ext hl2 b1.extBut D.l2z) b2.extBut D.l2i1) hy fun g3 i23 b3 => wpAny_pure (wpAny_pure (wpAny_pure ?_)))
  show wpAny _ _ (newTuple [x, y] >>= _) _ _ _
  have sz : g3.objs.size = s.heap.objs.size := by rw [b3.1, b2.1, b1.1]
  have z3 : ZipAt g3 z TI TO (rawInt T) true := b3.extBut _ _ D.i2z.symm (b2.extBut _ _ D.i1z.symm z1)
  have up : ∀ c o, g3.get? c = some o → (g3.push { cls := .type "tuple", data := .seq #[x, y] }).get? c = some o := fun c o e => Heap.get?_push_of_some _ e
  have tp : IsPair (g3.push { cls := .type "tuple", data := .seq #[x, y] }) g3.objs.size x y := Heap.get?_push_size _ rfl
  have s4 : (g3.push { cls := .type "tuple", data := .seq #[x, y] }).objs.size = g3.objs.size + 1 := Heap.size_push ..
  refine wpAny_bind (wpAny_newTuple (wpAny_pure ⟨_, rfl, ?_⟩))
  show Q (.ref g3.objs.size) _
  rw [sz] at tp s4 ⊢
  exact hQ _ (up _ _ z3) (itB_at (itB_ext i12 b3.extBut D.i12) fun o e => up _ o e) (itB_at i23 fun o e => up _ o e) tp s4
    fun c o c1 c2 c3 e => up c o (b3.extBut _ _ c3 (b2.extBut _ _ c2 (b1.extBut _ _ c1 e)))
theorem end_heldB {t u : Bool} {z TI TO T i1 i2 l1 l2 : Addr} {f : Bool} {oT : Obj} {k1 k2 : Nat} {xs ys : Array Value} {Q : Fin → Shared → Prop} (hh : A.handled = none) (D : ZipApart z TI TO i1 i2 l1 l2)
    (hz : ZipAt s.heap z TI TO (rawInt T) f) (hT : s.heap.get? T = some oT) (hTI : IsPair s.heap TI (.ref i1) (.ref i2))
    (h1 : itB t s.heap i1 l1 k1) (h2 : itB u s.heap i2 l2 k2) (hl1 : atB t s.heap l1 xs) (hl2 : atB u s.heap l2 ys) (hend : xs[k1]? = none ∨ ys[k2]? = none)
    (hE : ∀ h' e, (∀ c o, c ≠ z → c ≠ i1 → c ≠ i2 → s.heap.get? c = some o → h'.get? c = some o) → (∃ o, h'.get? e = some o ∧ o.cls = .type "StopIteration") → E (.ref e) { s with heap := h' }) :
    wpAny (model prog w) A (Builtin.«zip.__next__» ⟨[.ref z], []⟩) Q E s := by
  show wpAny _ _ (field (.ref z) 2 >>= _) _ _ _
  refine wpAny_bind (wpAny_field hz rfl (x := .bool false) rfl ?_)
  show wpAny _ _ (field (.ref z) 3 >>= _) _ _ _
  refine wpAny_bind (wpAny_field hz rfl (x := .ref TI) rfl (wpAny_bind (wpAny_seqItems hTI rfl ?_)))
  show wpAny _ _ (Builtin.SmallTypes.ownedTupleIsFree (.ref z) >>= _) _ _ _
  refine wpAny_bind (wpAny_tupleHeld_zip (show IsZipHeld s.heap z TI TO T f from hz) hT fun g1 _ b1 => ?_)
  simp only [Bool.false_eq_true, if_false]
  refine wpAny_bind ?_
  rw [← Array.forIn_toList]
  simp only [List.forIn_cons, List.forIn_nil]
  refine wpAny_bind (wpAny_bind (wpAny_holding ?_))
  show wpAny _ _ (Builtin.SmallTypes.nextOf (.ref i1) >>= _) _ _ _
  cases hx : xs[k1]? with
  | none => exact wpAny_bind (nextB_end (s := { s with heap := g1 }) hh (itB_ext h1 b1.extBut D.i1z) (atB_ext hl1 b1.extBut D.l1z) hx fun g2 e b2 he => hE g2 e (fun c o c1 c2 _ q => b2 _ _ c2 (b1.extBut _ _ c1 q)) he)
  | some x =>
    have hy : ys[k2]? = none := by
      rcases hend with h | h
      · rw [hx] at h; cases h
      · exact h
    refine wpAny_bind (nextB_item (s := { s with heap := g1 }) (itB_ext h1 b1.extBut D.i1z) (atB_ext hl1 b1.extBut D.l1z) hx fun g2 i12 b2 => wpAny_pure (wpAny_pure ?_))
    refine wpAny_bind (wpAny_bind (wpAny_holding ?_))
    show wpAny _ _ (Builtin.SmallTypes.nextOf (.ref i2) >>= _) _ _ _
    exact wpAny_bind (nextB_end (s := { s with heap := g2 }) hh (itB_ext (itB_ext h2 b1.extBut D.i2z) b2.extBut D.i12.symm) (atB_ext (atB_ext hl2 b1.extBut D.l2z) b2.extBut D.l2i1) hy fun g3 e b3 he => hE g3 e (fun c o c1 c2 c3 q => b3 _ _ c3 (b2.extBut _ _ c2 (b1.extBut _ _ c1 q))) he)
/-- the next pair, the last one being free -/
theorem next_freeB {t u : Bool} {z TI TO i1 i2 l1 l2 : Addr} {k1 k2 : Nat} {xs ys : Array Value} {x y a b f0 : Value} {f : Bool} {Q : Value → Shared → Prop} (D : ZipApart z TI TO i1 i2 l1 l2)
    (hz : ZipAt s.heap z TI TO f0 f) (fr : FreeF s.heap f0) (hTI : IsPair s.heap TI (.ref i1) (.ref i2)) (hTO : IsPair s.heap TO a b)
    (h1 : itB t s.heap i1 l1 k1) (h2 : itB u s.heap i2 l2 k2) (hl1 : atB t s.heap l1 xs) (hl2 : atB u s.heap l2 ys) (hx : xs[k1]? = some x) (hy : ys[k2]? = some y)
    (hQ : ∀ h', ZipAt h' z TI TO (rawInt s.heap.objs.size) false → IsPair h' TO x y → itB t h' i1 l1 (k1 + 1) → itB u h' i2 l2 (k2 + 1) → IsPair h' s.heap.objs.size x y → h'.objs.size = s.heap.objs.size + 1 →
      (∀ c o, c ≠ z → c ≠ TO → c ≠ i1 → c ≠ i2 → s.heap.get? c = some o → h'.get? c = some o) → Q (.ref s.heap.objs.size) { s with heap := h' }) :
    wpAny (model prog w) A (Builtin.«zip.__next__» ⟨[.ref z], []⟩) (fun fin s' => ∃ v, fin = .done (.ret v) ∧ Q v s') E s := by
  show wpAny _ _ (field (.ref z) 2 >>= _) _ _ _
  refine wpAny_bind (wpAny_field hz rfl (x := .bool false) rfl ?_)
  show wpAny _ _ (field (.ref z) 3 >>= _) _ _ _
  refine wpAny_bind (wpAny_field hz rfl (x := .ref TI) rfl (wpAny_bind (wpAny_seqItems hTI rfl ?_)))
  show wpAny _ _ (Builtin.SmallTypes.ownedTupleIsFree (.ref z) >>= _) _ _ _
  refine wpAny_bind (is_free hz fr ?_)
  simp only [if_true]
  refine wpAny_bind (wpAny_rule (wpAny_bind (wpAny_field hz rfl (x := .ref TO) rfl (wpAny_bind (wpAny_setField_rec hz (by simp) fun g1 z1 b1 => ?_)))))
  replace z1 : ZipAt g1 z TI TO .ellipsis f := z1
  refine wpAny_bind ?_
  simp only [List.zipIdx_cons, List.zipIdx_nil, List.forIn_cons, List.forIn_nil]
  refine wpAny_bind (wpAny_bind (wpAny_onRaise ?_))
  show wpAny _ _ (Builtin.SmallTypes.nextOf (.ref i1) >>= _) _ _ _
  refine wpAny_bind (nextB_item (itB_ext h1 b1.extBut D.i1z) (atB_ext hl1 b1.extBut D.l1z) hx fun g2 i12 b2 => wpAny_pure ?_)
  have t2 : IsPair g2 TO a b := b2.extBut _ _ D.TOi1 (b1.extBut _ _ D.TOz hTO)
  refine wpAny_bind (wpAny_seqItems t2 rfl (wpAny_bind (wpAny_updateSeq_pair t2 fun g3 t3 b3 => ?_)))
  replace t3 : IsPair g3 TO x b := t3
  refine wpAny_bind (wpAny_letGo (wpAny_pure (wpAny_bind (wpAny_bind (wpAny_onRaise ?_)))))
  show wpAny _ _ (Builtin.SmallTypes.nextOf (.ref i2) >>= _) _ _ _
  refine wpAny_bind (nextB_item (itB_ext (itB_ext (itB_ext h2 b1.extBut D.i2z) b2.extBut D.i12.symm) b3.extBut D.TOi2.symm)
    (atB_ext (atB_ext (atB_ext hl2 b1.extBut D.l2z) b2.extBut D.l2i1) b3.extBut D.l2TO) hy fun g4 i24 b4 => wpAny_pure ?_)
  have t4 : IsPair g4 TO x b := b4.extBut _ _ D.TOi2 t3
  refine wpAny_bind (wpAny_seqItems t4 rfl (wpAny_bind (wpAny_updateSeq_pair t4 fun g5 t5 b5 => ?_)))
  replace t5 : IsPair g5 TO x y := t5
  refine wpAny_bind (wpAny_letGo (wpAny_pure (wpAny_pure (wpAny_bind (wpAny_seqItems t5 rfl (wpAny_bind (wpAny_newTuple ?_)))))))
  have sz : g5.objs.size = s.heap.objs.size := by rw [b5.1, b4.1, b3.1, b2.1, b1.1]
  have z5 : ZipAt g5 z TI TO .ellipsis f := b5.extBut _ _ D.TOz.symm (b4.extBut _ _ D.i2z.symm (b3.extBut _ _ D.TOz.symm (b2.extBut _ _ D.i1z.symm z1)))
  have k5 : ∀ c o, c ≠ z → c ≠ TO → c ≠ i1 → c ≠ i2 → s.heap.get? c = some o → g5.get? c = some o := fun c o c1 c2 c3 c4 e =>
    b5.extBut _ _ c2 (b4.extBut _ _ c4 (b3.extBut _ _ c2 (b2.extBut _ _ c3 (b1.extBut _ _ c1 e))))
  have i15 : itB t g5 i1 l1 (k1 + 1) := itB_ext (itB_ext (itB_ext i12 b3.extBut D.TOi1.symm) b4.extBut D.i12) b5.extBut D.TOi1.symm
  have i25 : itB u g5 i2 l2 (k2 + 1) := itB_ext i24 b5.extBut D.TOi2.symm
  have zl : z < g5.objs.size := Heap.lt_size z5
  show wpAny _ _ (Builtin.SmallTypes.ownedTupleHandOut (.ref z) (.ref g5.objs.size) >>= _) _ _ _
  refine wpAny_bind ?_
  unfold Builtin.SmallTypes.ownedTupleHandOut
  have z6 : ZipAt (g5.push { cls := .type "tuple", data := .seq #[x, y] }) z TI TO .ellipsis f := Heap.get?_push_of_some _ z5
  refine wpAny_bind (wpAny_setField_rec z6 (by simp) fun g7 z7 b7 => ?_)
  replace z7 : ZipAt g7 z TI TO (rawInt g5.objs.size) f := z7
  refine wpAny_setField_rec z7 (by simp) fun g8 z8 b8 => ?_
  replace z8 : ZipAt g8 z TI TO (rawInt g5.objs.size) false := z8
  have up : ∀ c o, c ≠ z → g5.get? c = some o → g8.get? c = some o := fun c o c1 e => b8.extBut _ _ c1 (b7.extBut _ _ c1 (Heap.get?_push_of_some _ e))
  have t8 : IsPair g8 g5.objs.size x y := b8.extBut _ _ (Nat.ne_of_gt zl) (b7.extBut _ _ (Nat.ne_of_gt zl) (Heap.get?_push_size _ rfl))
  have s8 : g8.objs.size = g5.objs.size + 1 := by rw [b8.1, b7.1, Heap.size_push]
  rw [sz] at z8 t8 s8
  refine wpAny_pure ⟨_, rfl, ?_⟩
  show Q (.ref g5.objs.size) _
  rw [sz]
  exact hQ g8 z8 (up _ _ D.TOz t5) (itB_at i15 fun o e => up _ o D.i1z e) (itB_at i25 fun o e => up _ o D.i2z e) t8 s8 fun c o c1 c2 c3 c4 e => up c o c1 (k5 c o c1 c2 c3 c4 e)
theorem end_freeB {t u : Bool} {z TI TO i1 i2 l1 l2 : Addr} {k1 k2 : Nat} {xs ys : Array Value} {a b f0 : Value} {f : Bool} {Q : Fin → Shared → Prop} (hh : A.handled = none) (D : ZipApart z TI TO i1 i2 l1 l2)
    (hz : ZipAt s.heap z TI TO f0 f) (fr : FreeF s.heap f0) (hTI : IsPair s.heap TI (.ref i1) (.ref i2)) (hTO : IsPair s.heap TO a b)
    (h1 : itB t s.heap i1 l1 k1) (h2 : itB u s.heap i2 l2 k2) (hl1 : atB t s.heap l1 xs) (hl2 : atB u s.heap l2 ys) (hend : xs[k1]? = none ∨ ys[k2]? = none)
    (hE : ∀ h' e, (∀ c o, c ≠ z → c ≠ TO → c ≠ i1 → c ≠ i2 → s.heap.get? c = some o → h'.get? c = some o) → (∃ o, h'.get? e = some o ∧ o.cls = .type "StopIteration") → E (.ref e) { s with heap := h' }) :
    wpAny (model prog w) A (Builtin.«zip.__next__» ⟨[.ref z], []⟩) Q E s := by
  show wpAny _ _ (field (.ref z) 2 >>= _) _ _ _
  refine wpAny_bind (wpAny_field hz rfl (x := .bool false) rfl ?_)
  show wpAny _ _ (field (.ref z) 3 >>= _) _ _ _
  refine wpAny_bind (wpAny_field hz rfl (x := .ref TI) rfl (wpAny_bind (wpAny_seqItems hTI rfl ?_)))
  show wpAny _ _ (Builtin.SmallTypes.ownedTupleIsFree (.ref z) >>= _) _ _ _
  refine wpAny_bind (is_free hz fr ?_)
  simp only [if_true]
  refine wpAny_bind (wpAny_rule (wpAny_bind (wpAny_field hz rfl (x := .ref TO) rfl (wpAny_bind (wpAny_setField_rec hz (by simp) fun g1 z1 b1 => ?_)))))
  replace z1 : ZipAt g1 z TI TO .ellipsis f := z1
  refine wpAny_bind ?_
  simp only [List.zipIdx_cons, List.zipIdx_nil, List.forIn_cons, List.forIn_nil]
  refine wpAny_bind (wpAny_bind (wpAny_onRaise ?_))
  show wpAny _ _ (Builtin.SmallTypes.nextOf (.ref i1) >>= _) _ _ _
  cases hx : xs[k1]? with
  | none =>
    refine wpAny_bind (nextB_end hh (itB_ext h1 b1.extBut D.i1z) (atB_ext hl1 b1.extBut D.l1z) hx fun g2 e b2 he => ?_)
    obtain ⟨oe, hoe, hce⟩ := he
    have z2 : ZipAt g2 z TI TO .ellipsis f := b2 _ _ D.i1z.symm z1
    have hez : e ≠ z := fun q => by subst q; rw [z2] at hoe; cases hoe; simp at hce
    exact wpAny_setField_rec z2 (by simp) fun g3 _ b3 => hE g3 e (fun c o c1 _ c3 _ q => b3.extBut _ _ c1 (b2 _ _ c3 (b1.extBut _ _ c1 q))) ⟨oe, b3.extBut _ _ hez hoe, hce⟩
  | some x =>
    have hy : ys[k2]? = none := by
      rcases hend with h | h
      · rw [hx] at h; cases h
      · exact h
    refine wpAny_bind (nextB_item (itB_ext h1 b1.extBut D.i1z) (atB_ext hl1 b1.extBut D.l1z) hx fun g2 i12 b2 => wpAny_pure ?_)
    have t2 : IsPair g2 TO a b := b2.extBut _ _ D.TOi1 (b1.extBut _ _ D.TOz hTO)
    refine wpAny_bind (wpAny_seqItems t2 rfl (wpAny_bind (wpAny_updateSeq_pair t2 fun g3 t3 b3 => ?_)))
    refine wpAny_bind (wpAny_letGo (wpAny_pure (wpAny_bind (wpAny_bind (wpAny_onRaise ?_)))))
    show wpAny _ _ (Builtin.SmallTypes.nextOf (.ref i2) >>= _) _ _ _
    refine wpAny_bind (nextB_end hh (itB_ext (itB_ext (itB_ext h2 b1.extBut D.i2z) b2.extBut D.i12.symm) b3.extBut D.TOi2.symm)
      (atB_ext (atB_ext (atB_ext hl2 b1.extBut D.l2z) b2.extBut D.l2i1) b3.extBut D.l2TO) hy fun g4 e b4 he => ?_)
    obtain ⟨oe, hoe, hce⟩ := he
    have z4 : ZipAt g4 z TI TO .ellipsis f := b4 _ _ D.i2z.symm (b3.extBut _ _ D.TOz.symm (b2.extBut _ _ D.i1z.symm z1))
    have hez : e ≠ z := fun q => by subst q; rw [z4] at hoe; cases hoe; simp at hce
    exact wpAny_setField_rec z4 (by simp) fun g5 _ b5 => hE g5 e (fun c o c1 c2 c3 c4 q => b5.extBut _ _ c1 (b4 _ _ c4 (b3.extBut _ _ c2 (b2.extBut _ _ c3 (b1.extBut _ _ c1 q))))) ⟨oe, b5.extBut _ _ hez hoe, hce⟩
/-- the next pair, whatever the last one is -/
theorem next_anyB {t u : Bool} {z TI TO i1 i2 l1 l2 : Addr} {k1 k2 : Nat} {xs ys : Array Value} {x y a b f0 : Value} {f : Bool} {Q : Option Value → Shared → Prop} (D : ZipApart z TI TO i1 i2 l1 l2)
    (hz : ZipAt s.heap z TI TO f0 f) (kind : f0 = .none ∨ ∃ T : Addr, f0 = rawInt T) (hTI : IsPair s.heap TI (.ref i1) (.ref i2)) (hTO : IsPair s.heap TO a b)
    (h1 : itB t s.heap i1 l1 k1) (h2 : itB u s.heap i2 l2 k2) (hl1 : atB t s.heap l1 xs) (hl2 : atB u s.heap l2 ys) (hx : xs[k1]? = some x) (hy : ys[k2]? = some y)
    (hQ : ∀ h' f0' f', ZipAt h' z TI TO f0' f' → (f0' = .none ∨ ∃ T : Addr, f0' = rawInt T) → (∃ a b, IsPair h' TO a b) → itB t h' i1 l1 (k1 + 1) → itB u h' i2 l2 (k2 + 1) → IsPair h' s.heap.objs.size x y → h'.objs.size = s.heap.objs.size + 1 →
      (∀ c o, c ≠ z → c ≠ TO → c ≠ i1 → c ≠ i2 → s.heap.get? c = some o → h'.get? c = some o) → Q (some (.ref s.heap.objs.size)) { s with heap := h' }) :
    wpAny (model prog w) A (pyNext (.ref z)) Q E s := by
  have hty : s.TypeIs (.ref z) "zip" := ⟨_, hz, rfl⟩
  have free : FreeF s.heap f0 → wpAny (model prog w) A (pyNext (.ref z)) Q E s := fun fr => by
    unfold pyNext
    exact wpAny_bind (wpAny_attempt (wpAny_callSpecial?_slot (name := Str.ofString "__next__") hty F.slot_zip_next
      (wpAny_call_entry F.slot_zip_next hty F.entry_zip_next
        (next_freeB D hz fr hTI hTO h1 h2 hl1 hl2 hx hy fun h' a1 a2 a3 a4 a5 a6 a7 => wpAny_pure (hQ h' _ _ a1 (.inr ⟨_, rfl⟩) ⟨_, _, a2⟩ a3 a4 a5 a6 a7)) (F.args_zip_next_1 _))))
  rcases kind with rfl | ⟨T, rfl⟩
  · exact free (.inl rfl)
  · cases hT : s.heap.get? T with
    | none => exact free (.inr ⟨T, rfl, hT⟩)
    | some oT =>
      unfold pyNext
      exact wpAny_bind (wpAny_attempt (wpAny_callSpecial?_slot (name := Str.ofString "__next__") hty F.slot_zip_next
        (wpAny_call_entry F.slot_zip_next hty F.entry_zip_next
          (next_heldB D hz hT hTI h1 h2 hl1 hl2 hx hy fun h' a1 a3 a4 a5 a6 a7 => wpAny_pure (hQ h' _ _ a1 (.inr ⟨_, rfl⟩) ⟨a, b, a7 _ _ D.TOz D.TOi1 D.TOi2 hTO⟩ a3 a4 a5 a6 fun c o c1 _ c3 c4 e => a7 c o c1 c3 c4 e)) (F.args_zip_next_1 _))))
theorem done_anyB {t u : Bool} {z TI TO i1 i2 l1 l2 : Addr} {k1 k2 : Nat} {xs ys : Array Value} {a b f0 : Value} {f : Bool} {Q : Option Value → Shared → Prop} (hh : A.handled = none) (D : ZipApart z TI TO i1 i2 l1 l2)
    (hz : ZipAt s.heap z TI TO f0 f) (kind : f0 = .none ∨ ∃ T : Addr, f0 = rawInt T) (hTI : IsPair s.heap TI (.ref i1) (.ref i2)) (hTO : IsPair s.heap TO a b)
    (h1 : itB t s.heap i1 l1 k1) (h2 : itB u s.heap i2 l2 k2) (hl1 : atB t s.heap l1 xs) (hl2 : atB u s.heap l2 ys) (hend : xs[k1]? = none ∨ ys[k2]? = none)
    (hQ : ∀ h', (∀ c o, c ≠ z → c ≠ TO → c ≠ i1 → c ≠ i2 → s.heap.get? c = some o → h'.get? c = some o) → Q none { s with heap := h' }) : wpAny (model prog w) A (pyNext (.ref z)) Q E s := by
  have hty : s.TypeIs (.ref z) "zip" := ⟨_, hz, rfl⟩
  have free : FreeF s.heap f0 → wpAny (model prog w) A (pyNext (.ref z)) Q E s := fun fr => by
    unfold pyNext
    refine wpAny_bind (wpAny_attempt (wpAny_callSpecial?_slot (name := Str.ofString "__next__") hty F.slot_zip_next
      (wpAny_call_entry F.slot_zip_next hty F.entry_zip_next (end_freeB hh D hz fr hTI hTO h1 h2 hl1 hl2 hend fun h' e hk he => ?_) (F.args_zip_next_1 _))))
    obtain ⟨o, ho, hc⟩ := he
    exact wpAny_bind (wpAny_isInstance (T := "StopIteration") (b := true) ⟨o, ho, hc⟩ isSubtype_stop (wpAny_pure (hQ _ hk)))
  rcases kind with rfl | ⟨T, rfl⟩
  · exact free (.inl rfl)
  · cases hT : s.heap.get? T with
    | none => exact free (.inr ⟨T, rfl, hT⟩)
    | some oT =>
      unfold pyNext
      refine wpAny_bind (wpAny_attempt (wpAny_callSpecial?_slot (name := Str.ofString "__next__") hty F.slot_zip_next
        (wpAny_call_entry F.slot_zip_next hty F.entry_zip_next (end_heldB hh D hz hT hTI h1 h2 hl1 hl2 hend fun h' e hk he => ?_) (F.args_zip_next_1 _))))
      obtain ⟨o, ho, hc⟩ := he
      exact wpAny_bind (wpAny_isInstance (T := "StopIteration") (b := true) ⟨o, ho, hc⟩ isSubtype_stop (wpAny_pure (hQ _ fun c o c1 _ c3 c4 e => hk c o c1 c3 c4 e)))
end
end Zh

/-! Zh32: a whole tuple times nought. -/
namespace Zh
open PySem PySem.Spec PyProof.Rows L2
section
variable {X : Cx}
theorem tuple_mul0 (l : Addr) (items : Array Value) (n : Nat) (dd : Option Addr) (sl : Array (Option Value)) (u : Tok) (c1 : (items.isEmpty || (0 : Int) == 1) = false) :
    Meets (Builtin.«tuple.__mul__» ⟨[.ref l, .int 0 u], []⟩) (fun _ R s => s.heap.get? l = some { cls := .type "tuple", dict := dd, data := .seq items n, slots := sl } ∧
      R (.ok (.ret (Value.ref s.heap.objs.size))) { s with heap := s.heap.push { cls := Value.type "tuple", data := Data.seq #[] }, toks := s.toks }) :=
  .of_wp fun prog w A R s h => by
    obtain ⟨hp, g, d, tk, os⟩ := s
    obtain ⟨hl, h⟩ := h
    have f1 := AutoSeq1.idx_int
    have c0 : (decide ((0 : Int) < -(2 ^ 63)) || decide ((0 : Int) ≥ 2 ^ 63)) = false := by decide
    have c2 : (decide ((0 : Int) ≤ 0) || items.isEmpty) = true := by simp
    wp_walk using wpAny_loadPart' hl
    repeat (first
      | (refine wpAny_ite_false (decide_eq_false (by rw [c0]; exact Bool.false_ne_true)) ?_; wp_walk using wpAny_loadPart' hl)
      | (refine wpAny_ite_false (decide_eq_false (by rw [c1]; exact Bool.false_ne_true)) ?_; wp_walk using wpAny_loadPart' hl)
      | (refine wpAny_ite_true (decide_eq_true c2) ?_; wp_walk using wpAny_loadPart' hl))
    exact ⟨_, rfl, h⟩
def rRepW0 (K : PySem.W.Frag) : R2 := fun x y H Q => ∃ l xs, x = .ref l ∧ y = .int 0 ∧ SqT K H l xs ∧ xs ≠ [] ∧ ∀ p o, o.dict = none → H p = none → Q (.ref p) (upd H p (.frz o (.tup [])))
theorem op_repW0 : OpR X (binaryOp .Mult) (rRepW0 X.K) := by
  intro pins s σ H x y v u Q I rx ry h
  obtain ⟨l, xs, rfl, rfl, hT, hne, q⟩ := h
  cases rx
  obtain ⟨t, rfl⟩ := ry
  obtain ⟨its, r, ⟨⟨cls, dd, data, sl⟩, ho, hc, n, hd⟩, hs⟩ := I.tuple hT
  simp only at hc hd
  subst hc hd
  have hle : its.length = xs.length := r.length.symm
  have hn : its ≠ [] := fun e => hne (by
    rw [e] at hle
    exact List.eq_nil_of_length_eq_zero hle.symm)
  have hi : its.toArray.isEmpty = false := by
    cases its with
    | nil => exact absurd rfl hn
    | cons a b => rfl
  have c1 : (its.toArray.isEmpty || (0 : Int) == 1) = false := by rw [hi]; rfl
  refine wpAny_binaryOp_repeat_ref (T := "tuple") (U := "int") (by decide) ⟨_, ho, rfl⟩ (fun s' => typeIs_int s' 0 t) noFill_tuple_mul F.fills_int_mul F.slot_int_rmul repeat_tuple F.slot_int_index.lookup
    (call_meets F.slot_int_rmul (typeIs_int s 0 t) F.entry_int_rmul (F.args_int_rmul_2 _ _) (int_rmul_tuple 0 t l its.toArray n dd sl)
      ⟨ho, rfl, ⟨_, ho, rfl⟩, call_meets F.slot_tuple_mul ⟨_, ho, rfl⟩ F.entry_tuple_mul (F.args_tuple_mul_2 _ _) (tuple_mul0 l its.toArray n dd sl t c1) ⟨ho, ?_⟩⟩)
  refine ⟨.ref s.heap.objs.size, _, I.laid (t' := s.toks) (o := .frz (seqObj "tuple" #[] 0) (.tup [])) (fun b ob q => Heap.get?_push_of_some _ q) (Nat.le_refl _) ?_, rfl, q _ _ rfl (I.hok.fresh (Nat.le_refl _))⟩
  exact ⟨Heap.get?_push_size _ rfl, Nat.zero_le _, _, .nil, IsTup.new _ _⟩
end
end Zh

/-! Zh33: a list grown by a list or a tuple. -/
namespace Zh
open PySem PySem.Spec PyProof.Rows L2
section
variable {X : Cx}
end
end Zh

/-! Zh34: a tuple some times (as Zh12, Zh32; what comes is not known whole). -/
namespace Zh
open PySem PySem.Spec PyProof.Rows L2
section
variable {X : Cx}
def rRepT0 (K : PySem.W.Frag) : R2 := fun x y H Q => ∃ l xs, x = .ref l ∧ y = .int 0 ∧ SqT K H l xs ∧ xs ≠ [] ∧ ∀ p, H p = none → Q (.ref p) (upd H p (.tup []))
theorem op_repT0 : OpR X (binaryOp .Mult) (rRepT0 X.K) := by
  intro pins s σ H x y v u Q I rx ry h
  obtain ⟨l, xs, rfl, rfl, hT, hne, q⟩ := h
  cases rx
  obtain ⟨t, rfl⟩ := ry
  obtain ⟨its, r, ⟨⟨cls, dd, data, sl⟩, ho, hc, n, hd⟩, hs⟩ := I.tuple hT
  simp only at hc hd
  subst hc hd
  have hle : its.length = xs.length := r.length.symm
  have hn : its ≠ [] := fun e => hne (by
    rw [e] at hle
    exact List.eq_nil_of_length_eq_zero hle.symm)
  have hi : its.toArray.isEmpty = false := by
    cases its with
    | nil => exact absurd rfl hn
    | cons a b => rfl
  have c1 : (its.toArray.isEmpty || (0 : Int) == 1) = false := by rw [hi]; rfl
  refine wpAny_binaryOp_repeat_ref (T := "tuple") (U := "int") (by decide) ⟨_, ho, rfl⟩ (fun s' => typeIs_int s' 0 t) noFill_tuple_mul F.fills_int_mul F.slot_int_rmul repeat_tuple F.slot_int_index.lookup
    (call_meets F.slot_int_rmul (typeIs_int s 0 t) F.entry_int_rmul (F.args_int_rmul_2 _ _) (int_rmul_tuple 0 t l its.toArray n dd sl)
      ⟨ho, rfl, ⟨_, ho, rfl⟩, call_meets F.slot_tuple_mul ⟨_, ho, rfl⟩ F.entry_tuple_mul (F.args_tuple_mul_2 _ _) (tuple_mul0 l its.toArray n dd sl t c1) ⟨ho, ?_⟩⟩)
  refine ⟨.ref s.heap.objs.size, _, I.laid (t' := s.toks) (o := .tup []) (fun b ob q => Heap.get?_push_of_some _ q) (Nat.le_refl _) ?_, rfl, q _ (I.hok.fresh (Nat.le_refl _))⟩
  exact ⟨Nat.zero_le _, _, .nil, IsTup.new _ _⟩
def rRepT (K : PySem.W.Frag) : R2 := fun x y H Q => ∃ l k xs, x = .ref l ∧ y = .int k ∧ SqT K H l xs ∧ xs ≠ [] ∧ 1 ≤ k ∧ k ≤ 1000 ∧ xs.length ≤ 1000 ∧ (k = 1 → Q (.ref l) H) ∧ ∀ p, H p = none → Q (.ref p) (upd H p (.tup (List.replicate k.toNat xs).flatten))
theorem op_repT : OpR X (binaryOp .Mult) (rRepT X.K) := by
  intro pins s σ H x y v u Q I rx ry h
  obtain ⟨l, k, xs, rfl, rfl, hT, hne, h1, h2, hz, q1, q⟩ := h
  cases rx
  obtain ⟨t, rfl⟩ := ry
  obtain ⟨its, r, ⟨⟨cls, dd, data, sl⟩, ho, hc, n, hd⟩, hs⟩ := I.tuple hT
  simp only at hc hd
  subst hc hd
  have hle : its.length = xs.length := r.length.symm
  have hn : its ≠ [] := fun e => hne (by
    rw [e] at hle
    exact List.eq_nil_of_length_eq_zero hle.symm)
  have hi : its.toArray.isEmpty = false := by
    cases its with
    | nil => exact absurd rfl hn
    | cons a b => rfl
  have hsz0 : its.toArray.size = xs.length := by rw [List.size_toArray, hle]
  have hm : ((its.toArray.size : Nat) : Int) * k ≤ 1000000 := by
    rw [hsz0]
    have a1 : ((xs.length : Nat) : Int) * k ≤ 1000 * k := Int.mul_le_mul_of_nonneg_right (by omega) (by omega)
    omega
  have flen : (List.replicate k.toNat its).flatten.length ≤ sizeLine := by
    rw [PyProof.Rows.lm_len_rep_flat, hle, sizeLine_eq]
    have a1 : k.toNat * xs.length ≤ 1000 * 1000 := Nat.mul_le_mul (by omega) hz
    omega
  have c0 : (decide (k < -(2 ^ 63)) || decide (k ≥ 2 ^ 63)) = false := by
    rw [decide_eq_false (by omega), decide_eq_false (by omega)] <;> rfl
  by_cases c : k = 1
  · have c1 : (its.toArray.isEmpty || k == 1) = true := by
      rw [hi, Bool.false_or, c]; rfl
    refine wpAny_binaryOp_repeat_ref (T := "tuple") (U := "int") (by decide) ⟨_, ho, rfl⟩ (fun s' => typeIs_int s' k t) noFill_tuple_mul F.fills_int_mul F.slot_int_rmul repeat_tuple F.slot_int_index.lookup
      (call_meets F.slot_int_rmul (typeIs_int s k t) F.entry_int_rmul (F.args_int_rmul_2 _ _) (int_rmul_tuple k t l its.toArray n dd sl)
        ⟨ho, rfl, ⟨_, ho, rfl⟩, call_meets F.slot_tuple_mul ⟨_, ho, rfl⟩ F.entry_tuple_mul (F.args_tuple_mul_2 _ _) (tuple_mul1 l its.toArray n dd sl k t c0 c1) ⟨ho, ?_⟩⟩)
    exact ⟨.ref l, H, I, rfl, q1 c⟩
  have c1 : (its.toArray.isEmpty || k == 1) = false := by
    rw [hi, Bool.false_or]
    exact beq_eq_false_iff_ne.mpr (by omega)
  have c2 : (decide (k ≤ 0) || its.toArray.isEmpty) = false := by
    rw [hi, Bool.or_false]
    exact decide_eq_false (by omega)
  have c4 : Builtin.Tuple.tupleTooMany (((its.toArray.size : Nat) : Int) * k) = false := by
    unfold Builtin.Tuple.tupleTooMany
    rw [sizeLine_eq]
    exact decide_eq_false (by omega)
  refine wpAny_binaryOp_repeat_ref (T := "tuple") (U := "int") (by decide) ⟨_, ho, rfl⟩ (fun s' => typeIs_int s' k t) noFill_tuple_mul F.fills_int_mul F.slot_int_rmul repeat_tuple F.slot_int_index.lookup
    (call_meets F.slot_int_rmul (typeIs_int s k t) F.entry_int_rmul (F.args_int_rmul_2 _ _) (int_rmul_tuple k t l its.toArray n dd sl)
      ⟨ho, rfl, ⟨_, ho, rfl⟩, call_meets F.slot_tuple_mul ⟨_, ho, rfl⟩ F.entry_tuple_mul (F.args_tuple_mul_2 _ _) (tuple_mulW l its.toArray n dd sl k t c0 c1 c2 (by omega) c4 (by rw [size_rep, List.size_toArray]; exact flen)) ⟨ho, ?_⟩⟩)
  rw [size_rep]
  refine ⟨.ref s.heap.objs.size, _, I.laid (t' := s.toks) (o := .tup (List.replicate k.toNat xs).flatten) (fun b ob q => Heap.get?_push_of_some _ q) (Nat.le_refl _) ?_, rfl, q _ (I.hok.fresh (Nat.le_refl _))⟩
  exact ⟨by rw [PyProof.Rows.lm_len_rep_flat, sizeLine_eq]; have a1 : k.toNat * xs.length ≤ 1000 * 1000 := Nat.mul_le_mul (by omega) hz; omega, _, r.rep k.toNat, IsTup.new _ _⟩
end
end Zh

/-! Zh35: list(zip(a, b)) of lists and tuples, whichever (as Zh22). -/
namespace PrL
open PySem PySem.Spec PyProof.Rows PySem.Calls L2 Zh
def ZSB (t u : Bool) (xs ys : Array Value) (z TI TO i1 i2 l1 l2 : Addr) (i : Nat) (h : Heap) : Prop := (∃ f0 f, ZipAt h z TI TO f0 f ∧ (f0 = .none ∨ ∃ T : Addr, f0 = rawInt T)) ∧ IsPair h TI (.ref i1) (.ref i2) ∧ (∃ x y, IsPair h TO x y) ∧ itB t h i1 l1 i ∧ itB u h i2 l2 i ∧ atB t h l1 xs ∧ atB u h l2 ys
section
variable {prog : Program} {w : World} {A : Around} {E : Value → Shared → Prop} {s : Shared} {R : Result → Shared → Prop} {t u : Bool} {xs ys : Array Value} {z TI TO i1 i2 l1 l2 S : Addr} {h h' : Heap} {i : Nat}
theorem ZSB.keep (st : ZSB t u xs ys z TI TO i1 i2 l1 l2 i h) (lo : ZLow z TI TO i1 i2 l1 l2 S) (hk : ∀ b o, b ≠ S → h.get? b = some o → h'.get? b = some o) : ZSB t u xs ys z TI TO i1 i2 l1 l2 i h' := by
  obtain ⟨⟨f0, f, hz, kd⟩, hTI, ⟨x, y, hTO⟩, h1, h2, hl1, hl2⟩ := st
  exact ⟨⟨f0, f, hk _ _ (adn lo.z) hz, kd⟩, hk _ _ (adn lo.TI) hTI, ⟨x, y, hk _ _ (adn lo.TO) hTO⟩, itB_at h1 fun o e => hk _ o (adn lo.i1) e, itB_at h2 fun o e => hk _ o (adn lo.i2) e, atB_at hl1 fun o e => hk _ o (adn lo.l1) e, atB_at hl2 fun o e => hk _ o (adn lo.l2) e⟩
theorem ZSB.item {Q : Option Value → Shared → Prop} (D : ZipApart z TI TO i1 i2 l1 l2) (st : ZSB t u xs ys z TI TO i1 i2 l1 l2 i s.heap) (hi : i < min xs.size ys.size)
    (hQ : ∀ h', ZSB t u xs ys z TI TO i1 i2 l1 l2 (i + 1) h' → (∃ k v, xs[i]? = some k ∧ ys[i]? = some v ∧ h'.get? s.heap.objs.size = some { cls := .type "tuple", data := .seq #[k, v] }) → h'.objs.size = s.heap.objs.size + 1 →
      (∀ c o, c ≠ z → c ≠ TO → c ≠ i1 → c ≠ i2 → s.heap.get? c = some o → h'.get? c = some o) → Q (some (.ref s.heap.objs.size)) { s with heap := h' }) : wpAny (model prog w) A (pyNext (.ref z)) Q E s := by
  obtain ⟨⟨f0, f, hz, kd⟩, hTI, ⟨x, y, hTO⟩, h1, h2, hl1, hl2⟩ := st
  have hix : i < xs.size := Nat.lt_of_lt_of_le hi (Nat.min_le_left ..)
  have hiy : i < ys.size := Nat.lt_of_lt_of_le hi (Nat.min_le_right ..)
  have ex := Array.getElem?_eq_getElem hix
  have ey := Array.getElem?_eq_getElem hiy
  refine next_anyB D hz kd hTI hTO h1 h2 hl1 hl2 ex ey fun h' g0 g z' kd' TO' h1' h2' hT hsz hk => ?_
  exact hQ h' ⟨⟨g0, g, z', kd'⟩, hk _ _ D.TIz D.TITO D.TIi1 D.TIi2 hTI, TO', h1', h2', atB_at hl1 fun o e => hk _ o D.l1z D.l1TO D.l1i1 D.l1i2 e, atB_at hl2 fun o e => hk _ o D.l2z D.l2TO D.l2i1 D.l2i2 e⟩ ⟨_, _, ex, ey, hT⟩ hsz hk
theorem ZSB.done {Q : Option Value → Shared → Prop} (hh : A.handled = none) (D : ZipApart z TI TO i1 i2 l1 l2) (st : ZSB t u xs ys z TI TO i1 i2 l1 l2 (min xs.size ys.size) s.heap)
    (hQ : ∀ h', (∀ c o, c ≠ z → c ≠ TO → c ≠ i1 → c ≠ i2 → s.heap.get? c = some o → h'.get? c = some o) → Q none { s with heap := h' }) : wpAny (model prog w) A (pyNext (.ref z)) Q E s := by
  obtain ⟨⟨f0, f, hz, kd⟩, hTI, ⟨x, y, hTO⟩, h1, h2, hl1, hl2⟩ := st
  have hend : xs[min xs.size ys.size]? = none ∨ ys[min xs.size ys.size]? = none := by
    rcases Nat.le_total xs.size ys.size with h | h
    · exact .inl (Array.getElem?_eq_none (by rw [Nat.min_eq_left h]; exact Nat.le_refl _))
    · exact .inr (Array.getElem?_eq_none (by rw [Nat.min_eq_right h]; exact Nat.le_refl _))
  exact done_anyB hh D hz kd hTI hTO h1 h2 hl1 hl2 hend hQ
end
section
variable {X : Cx} {pins : List (Addr × Obj)} {σ : L2.St} {H : Hp} {s : Shared} {a : Addr} {xs : List V} {t : Bool}
end
section
variable {X : Cx} {e e2 : Expr} {ta : TA} {p p2 q pos : Pos}
end
end PrL

/-! ZsA: how the values and the heap of Z lie in the hand layer's: Rep, HR, what may come behind (Nx). -/
namespace Z
open PySem L2

abbrev H0 : Hp := fun _ => none
/-- a tuple; a list that never changes -/
def TL (K : PySem.W.Frag) (H : Hp) (a : Addr) (vs : List V) : Prop := H a = some (.tup vs)
def IL (K : PySem.W.Frag) (H : Hp) (a : Addr) (vs : List V) : Prop := (∃ o, H a = some (.frz o (.lst vs))) ∨ SqL K H0 a vs
theorem TL.sq {K : PySem.W.Frag} {H : Hp} {a : Addr} {vs : List V} (h : TL K H a vs) : SqT K H a vs := .inl (.inl h)
theorem IL.sq {K : PySem.W.Frag} {H : Hp} {a : Addr} {vs : List V} (h : IL K H a vs) : SqL K H a vs := by
  rcases h with ⟨o, h⟩ | (h | ⟨o, h⟩) | h
  · exact .inl (.inr ⟨o, h⟩)
  · cases h
  · cases h
  · exact .inr h

/-- no parameters -/
def noPs (a : Arguments) : Bool := a.posonlyargs.isEmpty && a.args.isEmpty && a.vararg.isNone && a.kwonlyargs.isEmpty && a.kw_defaults.isEmpty && a.kwarg.isNone && a.defaults.isEmpty
/-- an object, to the letter -/
def LamO (f : Addr) (o : Obj) : HO := .ext fun h => h.get? f = some o

mutual
def Rep (K : PySem.W.Frag) (ρ : List Addr) (H : Hp) : PV → V → Prop
  | .non, v => v = .non
  | .bl b, v => v = .bl b
  | .int i, v => v = .int i
  | .str s, v => v = .str s
  | .tup xs, v => ∃ a vs, v = .ref a ∧ TL K H a vs ∧ Reps K ρ H xs vs
  | .ils xs, v => ∃ a vs, v = .ref a ∧ IL K H a vs ∧ Reps K ρ H xs vs
  | .itp xs, v => ∃ a vs, v = .ref a ∧ Zh.Whole K H a vs ∧ Reps K ρ H xs vs
  | .exc c ns xs, v => ∃ (a C : Addr) (d : Option Addr) (gs : List V), v = .ref a ∧ PySem.W.nsIn K mainGlobals c = some (some (.ref C)) ∧ H a = some (Zh.KeptX (.ref C) d a) ∧ Reps K ρ H xs gs ∧ ns.length = gs.length ∧ ((ns = [] ∧ d = none) ∨ ∃ dd : Addr, d = some dd ∧ H dd = some (.xd (ns.zip gs)))
  | .fnv f c q xs vs, v => v = .ref f ∧ H c = some (LamX.CodeO c q) ∧ Reps K ρ H xs vs
  | .lam ds k q cl, v => ∃ (f c' : Addr) (ar : Arguments) (bd : Expr) (sc : Scope) (pm ctv : Value), v = .ref f ∧ ds[k]? = some (bd, sc) ∧ noPs ar = true ∧ H c' = some (LamX.CodeO c' q) ∧ H f = some (LamO f (PySem.W.kla_obj "<lambda>" q ar bd sc (cloFrom cl sc.names []) pm c' ctv))
  | .ref i, v => ∃ a, ρ[i]? = some a ∧ v = .ref a
def Reps (K : PySem.W.Frag) (ρ : List Addr) (H : Hp) : List PV → List V → Prop
  | [], vs => vs = []
  | x :: xs, vs => ∃ v r, vs = v :: r ∧ Rep K ρ H x v ∧ Reps K ρ H xs r
end
def RepD1 (K : PySem.W.Frag) (ρ : List Addr) (H : Hp) : List (Ky × PV) → List (Key × V) → Prop
  | [], kvs => kvs = []
  | (k, x) :: r, kvs => ∃ j v r', kvs = (j, v) :: r' ∧ k = .one j ∧ Rep K ρ H x v ∧ RepD1 K ρ H r r'
def RepD2 (K : PySem.W.Frag) (ρ : List Addr) (H : Hp) : List (Ky × PV) → List (List Key × V) → Prop
  | [], kvs => kvs = []
  | (k, x) :: r, kvs => ∃ j v r', kvs = (j, v) :: r' ∧ k = .many j ∧ Rep K ρ H x v ∧ RepD2 K ρ H r r'
def RepF (K : PySem.W.Frag) (ρ : List Addr) (H : Hp) : List (Str × PV) → List (Str × V) → Prop
  | [], fs => fs = []
  | (f, x) :: r, fs => ∃ v r', fs = (f, v) :: r' ∧ Rep K ρ H x v ∧ RepF K ρ H r r'

/-- what a place of the heap is -/
def RepO (K : PySem.W.Frag) (mg : Str → Option Value) (ρ : List Addr) (H : Hp) (o : Ob) (a : Addr) : Prop := match o with
  | .lst xs => ∃ vs, H a = some (.lst vs) ∧ Reps K ρ H xs vs
  | .dic kvs => (∃ ws, H a = some (.dK ws) ∧ RepD1 K ρ H kvs ws) ∨ ∃ ws, H a = some (.dT ws) ∧ RepD2 K ρ H kvs ws
  | .ins c fs => ∃ C dx gs, mg c = some (.ref C) ∧ H a = some (.ins C dx gs) ∧ RepF K ρ H fs gs
  | .ldc u kvs => H a = some u ∧ ((∃ o ws, u = .frz o (.dK ws) ∧ RepD1 K ρ H kvs ws) ∨ ∃ o ws, u = .frz o (.dT ws) ∧ RepD2 K ρ H kvs ws)
  | .tab P q => a = P ∧ LamX.TabS H P q

structure HR (K : PySem.W.Frag) (mg : Str → Option Value) (ρ : List Addr) (h : Hep) (H : Hp) : Prop where
  len : ρ.length = h.length
  nd : ρ.Nodup
  ob : ∀ (i : Nat) (o : Ob) (a : Addr), h[i]? = some o → ρ[i]? = some a → RepO K mg ρ H o a

/-- what may come behind -/
structure Nx (ρ : List Addr) (H : Hp) (ρ' : List Addr) (H' : Hp) : Prop where
  pre : ∃ t, ρ' = ρ ++ t
  fr : ∀ a o, H a = some o → a ∉ ρ → H' a = some o
  nw : ∀ a, a ∈ ρ' → a ∉ ρ → H a = none
theorem Nx.refl {ρ : List Addr} {H : Hp} : Nx ρ H ρ H := ⟨⟨[], by simp⟩, fun _ _ h _ => h, fun _ h n => absurd h n⟩
theorem Nx.at {ρ ρ' : List Addr} {H H' : Hp} (n : Nx ρ H ρ' H') {i : Nat} {a : Addr} (e : ρ[i]? = some a) : ρ'[i]? = some a := by
  obtain ⟨t, rfl⟩ := n.pre
  rw [List.getElem?_append_left (List.getElem?_eq_some_iff.mp e).1]
  exact e
theorem Nx.mem {ρ ρ' : List Addr} {H H' : Hp} (n : Nx ρ H ρ' H') {a : Addr} (e : a ∈ ρ) : a ∈ ρ' := by
  obtain ⟨t, rfl⟩ := n.pre
  exact List.mem_append_left _ e
theorem Nx.trans {ρ ρ1 ρ2 : List Addr} {H H1 H2 : Hp} (n : Nx ρ H ρ1 H1) (m : Nx ρ1 H1 ρ2 H2) : Nx ρ H ρ2 H2 := by
  refine ⟨?_, fun a o e h => ?_, fun a e h => ?_⟩
  · obtain ⟨t, rfl⟩ := n.pre
    obtain ⟨u, rfl⟩ := m.pre
    exact ⟨t ++ u, by rw [List.append_assoc]⟩
  · have h1 : a ∉ ρ1 := fun z => by
      have := n.nw a z h
      rw [e] at this
      cases this
    exact m.fr a o (n.fr a o e h) h1
  · by_cases h1 : a ∈ ρ1
    · exact n.nw a h1 h
    · have q := m.nw a e h1
      cases r : H a with
      | none => rfl
      | some o =>
        rw [n.fr a o r h] at q
        cases q

section
variable {K : PySem.W.Frag} {mg : Str → Option Value} {ρ ρ' : List Addr} {h : Hep} {H H' : Hp}
/-- a mutable thing -/
def isMu : HO → Prop
  | .tbl _ => True | .lst _ => True | .dK _ => True | .dT _ => True | .ins _ _ _ => True | .frz _ (.dK _) => True | .frz _ (.dT _) => True | _ => False
theorem HR.mu (r : HR K mg ρ h H) {a : Addr} (e : a ∈ ρ) : ∃ o, H a = some o ∧ isMu o := by
  obtain ⟨i, hi, rfl⟩ := List.getElem_of_mem e
  have hi' : i < h.length := by rw [← r.len]; exact hi
  have q := r.ob i h[i] ρ[i] (List.getElem?_eq_getElem hi') (List.getElem?_eq_getElem hi)
  cases ho : h[i] with
  | lst xs =>
    rw [ho] at q
    obtain ⟨vs, e, _⟩ := q
    exact ⟨_, e, trivial⟩
  | dic kvs =>
    rw [ho] at q
    rcases q with ⟨ws, e, _⟩ | ⟨ws, e, _⟩
    · exact ⟨_, e, trivial⟩
    · exact ⟨_, e, trivial⟩
  | ins c fs =>
    rw [ho] at q
    obtain ⟨C, dx, gs, _, e, _⟩ := q
    exact ⟨_, e, trivial⟩
  | ldc u kvs =>
    rw [ho] at q
    obtain ⟨e, q⟩ := q
    rcases q with ⟨o, ws, rfl, _⟩ | ⟨o, ws, rfl, _⟩
    · exact ⟨_, e, trivial⟩
    · exact ⟨_, e, trivial⟩
  | tab P w =>
    rw [ho] at q
    obtain ⟨ea, ps, e, _⟩ := q
    rw [ea]
    exact ⟨_, e, trivial⟩
theorem HR.fresh (r : HR K mg ρ h H) {p : Addr} (e : H p = none) : p ∉ ρ := fun z => by
  obtain ⟨o, q, _⟩ := r.mu z
  rw [e] at q
  cases q
theorem HR.nomu (r : HR K mg ρ h H) {a : Addr} {o : HO} (e : H a = some o) (n : ¬ isMu o) : a ∉ ρ := fun z => by
  obtain ⟨o', q, m⟩ := r.mu z
  rw [e] at q
  cases q
  exact n m
theorem TL.nx {a : Addr} {vs : List V} (t : TL K H a vs) (r : HR K mg ρ h H) (n : Nx ρ H ρ' H') : TL K H' a vs := by
  exact n.fr a _ t (r.nomu t fun z => z)
theorem IL.nx {a : Addr} {vs : List V} (t : IL K H a vs) (r : HR K mg ρ h H) (n : Nx ρ H ρ' H') : IL K H' a vs := by
  rcases t with ⟨o, t⟩ | t
  · exact .inl ⟨o, n.fr a _ t (r.nomu t fun z => z)⟩
  · exact .inr t

theorem wh_nx {a : Addr} {vs : List V} (t : Zh.Whole K H a vs) (r : HR K mg ρ h H) (n : Nx ρ H ρ' H') : Zh.Whole K H' a vs := by
  rcases t with ⟨o, d, t⟩ | t
  · exact .inl ⟨o, d, n.fr a _ t (r.nomu t fun z => z)⟩
  · exact .inr t

/-- a map of the places, and heaps that keep tuples: what Rep leans on -/
structure Stay (K : PySem.W.Frag) (ρ : List Addr) (H : Hp) (ρ' : List Addr) (H' : Hp) : Prop where
  tl : ∀ a vs, TL K H a vs → TL K H' a vs
  il : ∀ a vs, IL K H a vs → IL K H' a vs
  wl : ∀ a vs, Zh.Whole K H a vs → Zh.Whole K H' a vs
  xl : ∀ a cls d, H a = some (Zh.KeptX cls d a) → H' a = some (Zh.KeptX cls d a)
  xd : ∀ a fs, H a = some (.xd fs) → H' a = some (.xd fs)
  co : ∀ c q, H c = some (LamX.CodeO c q) → H' c = some (LamX.CodeO c q)
  lm : ∀ f o, H f = some (LamO f o) → H' f = some (LamO f o)
  rf : ∀ (i : Nat) (a : Addr), ρ[i]? = some a → ρ'[i]? = some a
theorem HR.stay (r : HR K mg ρ h H) (n : Nx ρ H ρ' H') : Stay K ρ H ρ' H' := ⟨fun a vs t => t.nx r n, fun a vs t => t.nx r n, fun a vs t => wh_nx t r n, fun a cls d t => n.fr a _ t (r.nomu t fun z => z), fun a fs t => n.fr a _ t (r.nomu t fun z => z), fun c q t => n.fr c _ t (r.nomu t fun z => z), fun f o t => n.fr f _ t (r.nomu t fun z => z), fun i a e => n.at e⟩
mutual
theorem Rep.stay (s : Stay K ρ H ρ' H') : ∀ (x : PV) (v : V), Rep K ρ H x v → Rep K ρ' H' x v
  | .non, _, q => q
  | .bl _, _, q => q
  | .int _, _, q => q
  | .str _, _, q => q
  | .tup xs, _, ⟨a, vs, e, t, q⟩ => ⟨a, vs, e, s.tl a vs t, Reps.stay s xs vs q⟩
  | .ils xs, _, ⟨a, vs, e, t, q⟩ => ⟨a, vs, e, s.il a vs t, Reps.stay s xs vs q⟩
  | .itp xs, _, ⟨a, vs, e, t, q⟩ => ⟨a, vs, e, s.wl a vs t, Reps.stay s xs vs q⟩
  | .exc c ns xs, _, ⟨a, C, d, gs, e, n, t, q, l, z⟩ => ⟨a, C, d, gs, e, n, s.xl a _ d t, Reps.stay s xs gs q, l, z.imp (fun y => y) fun ⟨dd, e2, y⟩ => ⟨dd, e2, s.xd dd _ y⟩⟩
  | .fnv f c q xs vs, _, ⟨e, t, z⟩ => ⟨e, s.co c q t, Reps.stay s xs vs z⟩
  | .lam ds k q cl, _, ⟨f, c', ar, bd, sc, pm, ctv, e, e2, n, t, z⟩ => ⟨f, c', ar, bd, sc, pm, ctv, e, e2, n, s.co c' q t, s.lm f _ z⟩
  | .ref i, _, ⟨a, e, q⟩ => ⟨a, s.rf i a e, q⟩
theorem Reps.stay (s : Stay K ρ H ρ' H') : ∀ (xs : List PV) (vs : List V), Reps K ρ H xs vs → Reps K ρ' H' xs vs
  | [], _, q => q
  | x :: xs, _, ⟨v, r, e, q, t⟩ => ⟨v, r, e, Rep.stay s x v q, Reps.stay s xs r t⟩
end
theorem RepD1.stay (s : Stay K ρ H ρ' H') : ∀ (xs : List (Ky × PV)) (vs : List (Key × V)), RepD1 K ρ H xs vs → RepD1 K ρ' H' xs vs
  | [], _, q => q
  | (k, x) :: xs, _, ⟨j, v, r, e, e2, q, t⟩ => ⟨j, v, r, e, e2, Rep.stay s x v q, RepD1.stay s xs r t⟩
theorem RepD2.stay (s : Stay K ρ H ρ' H') : ∀ (xs : List (Ky × PV)) (vs : List (List Key × V)), RepD2 K ρ H xs vs → RepD2 K ρ' H' xs vs
  | [], _, q => q
  | (k, x) :: xs, _, ⟨j, v, r, e, e2, q, t⟩ => ⟨j, v, r, e, e2, Rep.stay s x v q, RepD2.stay s xs r t⟩
theorem RepF.stay (s : Stay K ρ H ρ' H') : ∀ (xs : List (Str × PV)) (vs : List (Str × V)), RepF K ρ H xs vs → RepF K ρ' H' xs vs
  | [], _, q => q
  | (f, x) :: xs, _, ⟨v, r, e, q, t⟩ => ⟨v, r, e, Rep.stay s x v q, RepF.stay s xs r t⟩
theorem RepO.stay (s : Stay K ρ H ρ' H') {o : Ob} {a : Addr} (e : H' a = H a) (q : RepO K mg ρ H o a) : RepO K mg ρ' H' o a := by
  cases o with
  | lst xs =>
    obtain ⟨vs, e1, q⟩ := q
    exact ⟨vs, e.trans e1, Reps.stay s xs vs q⟩
  | dic kvs =>
    rcases q with ⟨ws, e1, q⟩ | ⟨ws, e1, q⟩
    · exact .inl ⟨ws, e.trans e1, RepD1.stay s kvs ws q⟩
    · exact .inr ⟨ws, e.trans e1, RepD2.stay s kvs ws q⟩
  | ins c fs =>
    obtain ⟨C, dx, gs, m, e1, q⟩ := q
    exact ⟨C, dx, gs, m, e.trans e1, RepF.stay s fs gs q⟩
  | ldc u kvs =>
    obtain ⟨e1, q⟩ := q
    rcases q with ⟨o, ws, e2, q⟩ | ⟨o, ws, e2, q⟩
    · exact ⟨e.trans e1, .inl ⟨o, ws, e2, RepD1.stay s kvs ws q⟩⟩
    · exact ⟨e.trans e1, .inr ⟨o, ws, e2, RepD2.stay s kvs ws q⟩⟩
  | tab P q' =>
    obtain ⟨e1, ps, e2, e3, e4⟩ := q
    refine ⟨e1, ps, by rw [← e1, e, e1]; exact e2, e3, fun pos cv hc => ?_⟩
    obtain ⟨c, h1, h2⟩ := e4 pos cv hc
    exact ⟨c, h1, s.co c q' h2⟩
theorem Rep.nx {x : PV} {v : V} (q : Rep K ρ H x v) (r : HR K mg ρ h H) (n : Nx ρ H ρ' H') : Rep K ρ' H' x v := Rep.stay (r.stay n) x v q
theorem Reps.nx {xs : List PV} {vs : List V} (q : Reps K ρ H xs vs) (r : HR K mg ρ h H) (n : Nx ρ H ρ' H') : Reps K ρ' H' xs vs := Reps.stay (r.stay n) xs vs q

/-- nothing of ours is touched: a new untracked thing (a tuple) -/
theorem HR.tupl (r : HR K mg ρ h H) {p : Addr} (e : H p = none) (o : HO) : HR K mg ρ h (upd H p o) ∧ Nx ρ H ρ (upd H p o) := by
  have n : Nx ρ H ρ (upd H p o) := ⟨⟨[], by simp⟩, fun a u q _ => by rw [upd_ne (ne_of_none q e)]; exact q, fun a q z => absurd q z⟩
  refine ⟨⟨r.len, r.nd, fun i u a h1 h2 => ?_⟩, n⟩
  refine RepO.stay (r.stay n) ?_ (r.ob i u a h1 h2)
  have hp := r.fresh e
  exact upd_ne fun z => hp (z ▸ List.mem_of_getElem? h2)
/-- a new thing of ours -/
theorem HR.alloc (r : HR K mg ρ h H) {p : Addr} (e : H p = none) {u : HO} {o : Ob} (new : RepO K mg (ρ ++ [p]) (upd H p u) o p) : HR K mg (ρ ++ [p]) (h ++ [o]) (upd H p u) ∧ Nx ρ H (ρ ++ [p]) (upd H p u) := by
  have hp := r.fresh e
  have n : Nx ρ H (ρ ++ [p]) (upd H p u) := ⟨⟨[p], rfl⟩, fun a w q _ => by rw [upd_ne (ne_of_none q e)]; exact q, fun a q z => by
    rcases List.mem_append.mp q with q | q
    · exact absurd q z
    · rw [List.mem_singleton.mp q]; exact e⟩
  refine ⟨⟨by rw [List.length_append, List.length_append, r.len] <;> rfl, ?_, fun i w a h1 h2 => ?_⟩, n⟩
  · rw [List.nodup_append]
    refine ⟨r.nd, by simp, fun a ha b hb => ?_⟩
    rw [List.mem_singleton.mp hb]
    exact fun z => hp (z ▸ ha)
  · by_cases hi : i < h.length
    · rw [List.getElem?_append_left hi] at h1
      rw [List.getElem?_append_left (by rw [r.len]; exact hi)] at h2
      refine RepO.stay (r.stay n) ?_ (r.ob i w a h1 h2)
      exact upd_ne fun z => hp (z ▸ List.mem_of_getElem? h2)
    · have hl : i < (h ++ [o]).length := (List.getElem?_eq_some_iff.mp h1).1
      rw [List.length_append] at hl
      have hi' : i = h.length := by simp at hl; omega
      subst hi'
      rw [List.getElem?_append_right (Nat.le_refl _), Nat.sub_self] at h1
      rw [← r.len, List.getElem?_append_right (Nat.le_refl _), Nat.sub_self] at h2
      cases h1
      cases h2
      exact new
/-- one of ours is written -/
theorem HR.write (r : HR K mg ρ h H) {i : Nat} {a : Addr} (e : ρ[i]? = some a) {u : HO} {o : Ob} (new : RepO K mg ρ (upd H a u) o a) : HR K mg ρ (h.set i o) (upd H a u) ∧ Nx ρ H ρ (upd H a u) := by
  have hm : a ∈ ρ := List.mem_of_getElem? e
  have n : Nx ρ H ρ (upd H a u) := ⟨⟨[], by simp⟩, fun b w q z => by rw [upd_ne (fun y => z (by rw [y]; exact hm) : b ≠ a)]; exact q, fun b q z => absurd q z⟩
  refine ⟨⟨by rw [List.length_set]; exact r.len, r.nd, fun j w b h1 h2 => ?_⟩, n⟩
  by_cases hj : i = j
  · subst hj
    rw [e] at h2
    cases h2
    rw [List.getElem?_set_self (by rw [← r.len]; exact (List.getElem?_eq_some_iff.mp e).1)] at h1
    cases h1
    exact new
  · rw [List.getElem?_set_ne hj] at h1
    refine RepO.stay (r.stay n) ?_ (r.ob j w b h1 h2)
    refine upd_ne fun z => hj ?_
    subst z
    have h3 := (List.getElem?_eq_some_iff.mp e)
    have h4 := (List.getElem?_eq_some_iff.mp h2)
    obtain ⟨l1, e1⟩ := h3
    obtain ⟨l2, e2⟩ := h4
    exact (List.getElem_inj r.nd).mp (e1.trans e2.symm)
theorem HR.get (r : HR K mg ρ h H) {i : Nat} {o : Ob} (e : h[i]? = some o) : ∃ a, ρ[i]? = some a ∧ RepO K mg ρ H o a := by
  have hi : i < ρ.length := by rw [r.len]; exact (List.getElem?_eq_some_iff.mp e).1
  exact ⟨ρ[i], List.getElem?_eq_getElem hi, r.ob i o _ e (List.getElem?_eq_getElem hi)⟩
theorem HR.lst (r : HR K mg ρ h H) {i : Nat} {xs : List PV} (e : h[i]? = some (.lst xs)) : ∃ a vs, ρ[i]? = some a ∧ H a = some (.lst vs) ∧ Reps K ρ H xs vs := by
  obtain ⟨a, e1, vs, e2, q⟩ := r.get e
  exact ⟨a, vs, e1, e2, q⟩

/-! ### lists of values -/
theorem Reps.len : ∀ {xs : List PV} {vs : List V}, Reps K ρ H xs vs → xs.length = vs.length
  | [], _, q => by cases q; rfl
  | _ :: xs, _, ⟨v, r, e, _, t⟩ => by subst e; rw [List.length_cons, List.length_cons, Reps.len t]
theorem Reps.get : ∀ {xs : List PV} {vs : List V} {i : Nat} {x : PV}, Reps K ρ H xs vs → xs[i]? = some x → ∃ v, vs[i]? = some v ∧ Rep K ρ H x v
  | [], _, _, _, _, e => by simp at e
  | y :: ys, _, 0, x, ⟨v, r, e1, q, t⟩, e => by
    subst e1
    simp at e
    subst e
    exact ⟨v, rfl, q⟩
  | y :: ys, _, i + 1, x, ⟨v, r, e1, q, t⟩, e => by
    subst e1
    exact Reps.get (i := i) t (by simpa using e)
theorem Reps.app : ∀ {xs ys : List PV} {vs ws : List V}, Reps K ρ H xs vs → Reps K ρ H ys ws → Reps K ρ H (xs ++ ys) (vs ++ ws)
  | [], _, _, _, q, t => by cases q; exact t
  | x :: xs, _, _, _, ⟨v, r, e, q, t⟩, u => by subst e; exact ⟨v, _, rfl, q, Reps.app t u⟩
theorem Reps.one {x : PV} {v : V} (q : Rep K ρ H x v) : Reps K ρ H [x] [v] := ⟨v, [], rfl, q, rfl⟩
theorem Reps.set : ∀ {xs : List PV} {vs : List V} (i : Nat) {x : PV} {v : V}, Reps K ρ H xs vs → Rep K ρ H x v → Reps K ρ H (xs.set i x) (vs.set i v)
  | [], _, _, _, _, q, _ => by cases q; exact rfl
  | y :: ys, _, 0, _, _, ⟨v, r, e, q, t⟩, u => by subst e; exact ⟨_, _, rfl, u, t⟩
  | y :: ys, _, i + 1, _, _, ⟨v, r, e, q, t⟩, u => by subst e; exact ⟨v, _, rfl, q, Reps.set i t u⟩
theorem Reps.drop : ∀ {xs : List PV} {vs : List V} (n : Nat), Reps K ρ H xs vs → Reps K ρ H (xs.drop n) (vs.drop n)
  | _, _, 0, q => q
  | [], _, n + 1, q => by cases q; exact rfl
  | y :: ys, _, n + 1, ⟨v, r, e, q, t⟩ => by subst e; exact Reps.drop n t
theorem Reps.take : ∀ {xs : List PV} {vs : List V} (n : Nat), Reps K ρ H xs vs → Reps K ρ H (xs.take n) (vs.take n)
  | _, _, 0, q => by rw [List.take_zero, List.take_zero]; exact rfl
  | [], _, n + 1, q => by cases q; exact rfl
  | y :: ys, _, n + 1, ⟨v, r, e, q, t⟩ => by subst e; exact ⟨v, _, rfl, q, Reps.take n t⟩
theorem Reps.eraseIdx : ∀ {xs : List PV} {vs : List V} (n : Nat), Reps K ρ H xs vs → Reps K ρ H (xs.eraseIdx n) (vs.eraseIdx n)
  | [], _, _, q => by cases q; exact rfl
  | y :: ys, _, 0, ⟨v, r, e, q, t⟩ => by subst e; exact t
  | y :: ys, _, n + 1, ⟨v, r, e, q, t⟩ => by subst e; exact ⟨v, _, rfl, q, Reps.eraseIdx n t⟩
theorem Reps.dropLast {xs : List PV} {vs : List V} (q : Reps K ρ H xs vs) : Reps K ρ H xs.dropLast vs.dropLast := by
  rw [List.dropLast_eq_take, List.dropLast_eq_take, q.len]
  exact q.take _
theorem Reps.cut {xs : List PV} {vs : List V} (q : Reps K ρ H xs vs) (lo hi : Option Int) : Reps K ρ H (cutL xs lo hi) (cutV vs lo hi) := by
  unfold cutL cutV sIx
  rw [q.len]
  exact (q.drop _).take _
theorem Reps.nil_iff {xs : List PV} {vs : List V} (q : Reps K ρ H xs vs) : xs.isEmpty = vs.isEmpty := by
  cases xs with
  | nil => cases q; rfl
  | cons x r => obtain ⟨v, r', e, _⟩ := q; subst e; rfl
theorem Reps.rep : ∀ {xs : List PV} {vs : List V} (n : Nat), Reps K ρ H xs vs → Reps K ρ H (List.replicate n xs).flatten (List.replicate n vs).flatten
  | _, _, 0, _ => rfl
  | _, _, n + 1, q => by rw [List.replicate_succ, List.replicate_succ, List.flatten_cons, List.flatten_cons]; exact q.app (Reps.rep n q)
theorem Reps.rev : ∀ {xs : List PV} {vs : List V}, Reps K ρ H xs vs → Reps K ρ H xs.reverse vs.reverse
  | [], _, q => by cases q; exact rfl
  | x :: xs, _, ⟨v, r, e, q, t⟩ => by
    subst e
    rw [List.reverse_cons, List.reverse_cons]
    exact (Reps.rev t).app (Reps.one q)
theorem reps_map {α : Type} {f : α → PV} {g : α → V} (hf : ∀ a, Rep K ρ H (f a) (g a)) : ∀ l : List α, Reps K ρ H (l.map f) (l.map g)
  | [] => rfl
  | a :: r => ⟨_, _, rfl, hf a, reps_map hf r⟩
theorem Reps.ints : ∀ {xs : List PV} {vs : List V} {ns : List Int}, Reps K ρ H xs vs → intsOf xs = some ns → vs = ns.map V.int
  | [], _, ns, q, e => by cases q; simp [intsOf] at e; subst e; rfl
  | x :: xs, _, ns, ⟨v, r, e1, q, t⟩, e => by
    subst e1
    cases x with
    | int i =>
      cases h : intsOf xs with
      | none => simp [intsOf, h] at e
      | some ms =>
        simp [intsOf, h] at e
        subst e
        obtain rfl := q
        rw [Reps.ints t h]
        rfl
    | _ => simp [intsOf] at e
theorem Reps.bools : ∀ {xs : List PV} {vs : List V} {ns : List Bool}, Reps K ρ H xs vs → boolsOf xs = some ns → vs = ns.map V.bl
  | [], _, ns, q, e => by cases q; simp [boolsOf] at e; subst e; rfl
  | x :: xs, _, ns, ⟨v, r, e1, q, t⟩, e => by
    subst e1
    cases x with
    | bl i =>
      cases h : boolsOf xs with
      | none => simp [boolsOf, h] at e
      | some ms =>
        simp [boolsOf, h] at e
        subst e
        obtain rfl := q
        rw [Reps.bools t h]
        rfl
    | _ => simp [boolsOf] at e
end
/-! ### data -/
section
mutual
theorem dat_depth (h : Hep) : ∀ (n : Nat) (x : PV) (d : PyData), dat h n x = some d → d.depth ≤ n := fun n x d e => by
  cases x with
  | non => cases n <;> (cases e; exact Nat.zero_le _)
  | bl b => cases n <;> (cases e; exact Nat.zero_le _)
  | int b => cases n <;> (cases e; exact Nat.zero_le _)
  | str b => cases n <;> (cases e; exact Nat.zero_le _)
  | exc c ns vs => cases n <;> cases e
  | fnv f c q xs vs => cases n <;> cases e
  | lam ds k q cl => cases n <;> cases e
  | tup xs =>
    cases n with
    | zero => cases e
    | succ n =>
      cases q : datAll (dat h n) xs with
      | none => rw [dat, q] at e; cases e
      | some ds => rw [dat, q] at e; cases e; exact seq_depth h n xs ds q
  | itp xs =>
    cases n with
    | zero => cases e
    | succ n =>
      cases q : datAll (dat h n) xs with
      | none => rw [dat, q] at e; cases e
      | some ds => rw [dat, q] at e; cases e; exact seq_depth h n xs ds q
  | ils xs =>
    cases n with
    | zero => cases e
    | succ n =>
      cases q : datAll (dat h n) xs with
      | none => rw [dat, q] at e; cases e
      | some ds => rw [dat, q] at e; cases e; exact seq_depth h n xs ds q
  | ref r =>
    cases n with
    | zero => cases e
    | succ n =>
      rw [dat] at e
      split at e
      · rename_i xs eq
        cases q : datAll (dat h n) xs with
        | none => rw [q] at e; cases e
        | some ds => rw [q] at e; cases e; exact seq_depth h n xs ds q
      · cases e
termination_by n => (n, 0)
theorem seq_depth (h : Hep) (n : Nat) : ∀ (xs : List PV) (ds : List PyData), datAll (dat h n) xs = some ds → PyData.depthAll ds + 1 ≤ n + 1
  | [], ds, e => by cases e; simp [PyData.depthAll]
  | x :: xs, ds, e => by
    cases q1 : dat h n x with
    | none => rw [datAll, q1] at e; cases e
    | some d =>
      cases q2 : datAll (dat h n) xs with
      | none => rw [datAll, q1, q2] at e; cases e
      | some ds' =>
        rw [datAll, q1, q2] at e
        cases e
        have a2 := dat_depth h n x d q1
        have b2 := seq_depth h n xs ds' q2
        simp only [PyData.depthAll]
        omega
termination_by xs => (n, xs.length + 1)
end
theorem dat_shaped {h : Hep} {n : Nat} {x : PV} {d : PyData} (l : n ≤ 64) (e : dat h n x = some d) (c : d.canLay0 = true) : SeqAt.shaped d = true := by
  have b := dat_depth h n x d e
  exact Bool.and_eq_true_iff.mpr ⟨c, decide_eq_true (by omega)⟩
end
end Z

/-! ZsB: Z's expressions are sound: what wE asks is what the hand layer's readings ask. -/
namespace Z
open PySem L2

def XR (K : PySem.W.Frag) (mg : Str → Option Value) (ρ : List Addr) (H : Hp) (x : XV) (cls : Value) (d : Option Addr) : Prop :=
  ∃ C : Addr, PySem.W.nsIn K mainGlobals x.cls = some (some (.ref C)) ∧ cls = .ref C ∧ ((x.fs = [] ∧ d = none) ∨ ∃ (dd : Addr) (gs : List (Str × V)), d = some dd ∧ H dd = some (.xd gs) ∧ dd ∉ ρ ∧ RepF K ρ H x.fs gs)

def KQok (X : Cx) (ρ : List Addr) (H : Hp) (F : KQ) (Q : VK) : Prop :=
  ∀ (r : PV) (h' : Hep) (ρ' : List Addr) (H' : Hp) (v : V), Nx ρ H ρ' H' → HR X.K X.mg ρ' h' H' → Rep X.K ρ' H' r v → F r h' → Q v H'
def KXok (X : Cx) (W : WX) (σ : St) (ρ : List Addr) (H : Hp) (E : KX) : Prop :=
  ∀ (x : XV) (h' : Hep) (ρ' : List Addr) (H' : Hp) (cls : Value) (d : Option Addr), Nx ρ H ρ' H' → HR X.K X.mg ρ' h' H' → XR X.K X.mg ρ' H' x cls d → E x h' → W cls d σ H'
theorem KQok.nx {X : Cx} {ρ ρ' : List Addr} {H H' : Hp} {F : KQ} {Q : VK} (k : KQok X ρ H F Q) (n : Nx ρ H ρ' H') : KQok X ρ' H' F Q := fun r h1 ρ1 H1 v m => k r h1 ρ1 H1 v (n.trans m)
theorem KXok.nx {X : Cx} {W : WX} {σ : St} {ρ ρ' : List Addr} {H H' : Hp} {E : KX} (k : KXok X W σ ρ H E) (n : Nx ρ H ρ' H') : KXok X W σ ρ' H' E := fun x h1 ρ1 H1 c d m => k x h1 ρ1 H1 c d (n.trans m)
theorem KXok.no {X : Cx} {W : WX} {σ : St} {ρ : List Addr} {H : Hp} : KXok X W σ ρ H noX := fun _ _ _ _ _ _ _ _ _ z => z.elim

structure SR (X : Cx) (ρ : List Addr) (σz : Env) (h : Hep) (σ : St) (H : Hp) : Prop where
  hr : HR X.K X.mg ρ h H
  len : σz.length = σ.length
  sl : ∀ (i : Nat) (x : PV), σz[i]? = some (some x) → ∃ v, σ[i]? = some (some v) ∧ Rep X.K ρ H x v
theorem SR.nx {X : Cx} {ρ ρ' : List Addr} {σz : Env} {h h' : Hep} {σ : St} {H H' : Hp} (s : SR X ρ σz h σ H) (n : Nx ρ H ρ' H') (r : HR X.K X.mg ρ' h' H') : SR X ρ' σz h' σ H' :=
  ⟨r, s.len, fun i x e => let ⟨v, e1, q⟩ := s.sl i x e; ⟨v, e1, q.nx s.hr n⟩⟩
theorem SR.set {X : Cx} {ρ : List Addr} {σz : Env} {h : Hep} {σ : St} {H : Hp} (s : SR X ρ σz h σ H) (i : Nat) {x : PV} {v : V} (q : Rep X.K ρ H x v) : SR X ρ (σz.set i (some x)) h (σ.set i (some v)) H := by
  refine ⟨s.hr, by rw [List.length_set, List.length_set]; exact s.len, fun j y e => ?_⟩
  by_cases hj : i = j
  · subst hj
    by_cases hl : i < σz.length
    · rw [List.getElem?_set_self hl] at e
      cases e
      exact ⟨v, List.getElem?_set_self (by rw [← s.len]; exact hl), q⟩
    · rw [List.getElem?_eq_none (by rw [List.length_set]; omega)] at e
      cases e
  · rw [List.getElem?_set_ne hj] at e ⊢
    exact s.sl j y e
theorem SR.wipe {X : Cx} {ρ : List Addr} {σz : Env} {h : Hep} {σ : St} {H : Hp} (s : SR X ρ σz h σ H) : ∀ vs : List Nat, SR X ρ (wipeZ σz vs) h (L2.wipe σ vs) H
  | [] => s
  | v :: vs => by
    have ih := SR.wipe s vs
    show SR X ρ ((wipeZ σz vs).set v none) h ((L2.wipe σ vs).set v none) H
    refine ⟨s.hr, by rw [List.length_set, List.length_set]; exact ih.len, fun j y e => ?_⟩
    by_cases hj : v = j
    · subst hj
      by_cases hl : v < (wipeZ σz vs).length
      · rw [List.getElem?_set_self hl] at e
        cases e
      · rw [List.getElem?_eq_none (by rw [List.length_set]; omega)] at e
        cases e
    · rw [List.getElem?_set_ne hj] at e ⊢
      exact ih.sl j y e

/-! ### readings made of Z's -/
abbrev WE := Env → Hep → KQ → KX → Prop
def LE (X : Cx) (W : WX) (w : WE) : TE := fun σ H Q => ∃ (ρ : List Addr) (σz : Env) (h : Hep) (F : KQ) (E : KX), SR X ρ σz h σ H ∧ KQok X ρ H F Q ∧ KXok X W σ ρ H E ∧ w σz h F E
def LT (X : Cx) (W : WX) (w : Env → Hep → KB → KX → Prop) : TT := fun σ H Q => ∃ (ρ : List Addr) (σz : Env) (h : Hep) (F : KB) (E : KX), SR X ρ σz h σ H ∧
  (∀ (b : Bool) (h' : Hep) (ρ' : List Addr) (H' : Hp), Nx ρ H ρ' H' → HR X.K X.mg ρ' h' H' → F b h' → Q b H') ∧ KXok X W σ ρ H E ∧ w σz h F E
def LA (X : Cx) (W : WX) (w : Env → Hep → (List PV → Hep → Prop) → KX → Prop) : TA := fun σ H Q => ∃ (ρ : List Addr) (σz : Env) (h : Hep) (F : List PV → Hep → Prop) (E : KX), SR X ρ σz h σ H ∧
  (∀ (xs : List PV) (h' : Hep) (ρ' : List Addr) (H' : Hp) (vs : List V), Nx ρ H ρ' H' → HR X.K X.mg ρ' h' H' → Reps X.K ρ' H' xs vs → F xs h' → Q vs H') ∧ KXok X W σ ρ H E ∧ w σz h F E
def LO (X : Cx) (W : WX) (w : Env → Hep → (Option Int → Hep → Prop) → KX → Prop) : TO := fun σ H Q => ∃ (ρ : List Addr) (σz : Env) (h : Hep) (F : Option Int → Hep → Prop) (E : KX), SR X ρ σz h σ H ∧
  (∀ (o : Option Int) (h' : Hep) (ρ' : List Addr) (H' : Hp), Nx ρ H ρ' H' → HR X.K X.mg ρ' h' H' → F o h' → Q o H') ∧ KXok X W σ ρ H E ∧ w σz h F E

section
variable {X : Cx} {W : WX} {e a b c : Expr} {es : List Expr}
theorem pe_imp {t t' : TE} (h : PE X e t) (k : ∀ σ H Q, t' σ H Q → t σ H Q) : PE X e t' := ⟨fun pins s σ H Q I q => h.run pins s σ H Q I (k _ _ _ q)⟩
theorem pt_imp {t t' : TT} (h : PT X e t) (k : ∀ σ H Q, t' σ H Q → t σ H Q) : PT X e t' := ⟨fun pins s σ H Q I q => h.run pins s σ H Q I (k _ _ _ q)⟩
theorem pw_imp {t t' : TT} (h : PW X e t) (k : ∀ σ H Q, t' σ H Q → t σ H Q) : PW X e t' := ⟨fun wh pins s σ H Q I q => h.run wh pins s σ H Q I (k _ _ _ q)⟩
theorem pa_imp {t t' : TA} (h : PA X es t) (k : ∀ σ H Q, t' σ H Q → t σ H Q) : PA X es t' := ⟨fun pos pins s σ H Q I q => h.run pos pins s σ H Q I (k _ _ _ q)⟩

/-! ### constants and names -/
theorem ze_var {i : Nat} {x : Str} {pos : Pos} (hN : X.N[i]? = some x) (hv : Vis X.env.scope x) (hd : (x == ("__debug__" : Str)) = false) (hcd : (x == ("__classdict__" : Str)) = false) (Γ : List Spec) : PE X (.Name x pos) (LE X W (wE Γ (.var i))) := by
  refine pe_imp (pe_var hN hv hd hcd) fun σ H Q ⟨ρ, σz, h, F, E, s, kq, kx, w⟩ => ?_
  unfold wE at w
  split at w
  · rename_i v e
    obtain ⟨u, e1, q⟩ := s.sl i v e
    exact ⟨u, e1, kq v h ρ H u Nx.refl s.hr q w⟩
  · exact w.elim
theorem ze_c {t : V} {v : PV} {Γ : List Spec} {x : Ex} (he : PE X e (tC t)) (hw : ∀ σz h F E, wE Γ x σz h F E → F v h) (hr : ∀ ρ H, Rep X.K ρ H v t) : PE X e (LE X W (wE Γ x)) :=
  pe_imp he fun σ H Q ⟨ρ, σz, h, F, E, s, kq, kx, w⟩ => kq v h ρ H t Nx.refl s.hr (hr ρ H) (hw σz h F E w)

/-! ### two in a row -/
theorem le_two {wa : WE} {wb : WE} {op : PV → PV → Hep → KQ → Prop} {r : R2}
    (ho : ∀ (ρ : List Addr) (h : Hep) (H : Hp) (x y : PV) (v u : V) (F : KQ) (Q : VK), HR X.K X.mg ρ h H → Rep X.K ρ H x v → Rep X.K ρ H y u → KQok X ρ H F Q → op x y h F → r v u H Q)
    (σ : St) (H : Hp) (Q : VK) (q : LE X W (fun σz h F E => wa σz h (fun x h1 => wb σz h1 (fun y h2 => op x y h2 F) E) E) σ H Q) : tOp r (LE X W wa) (LE X W wb) σ H Q := by
  obtain ⟨ρ, σz, h, F, E, s, kq, kx, w⟩ := q
  refine ⟨ρ, σz, h, _, E, s, fun x h1 ρ1 H1 v n1 r1 p1 w1 => ?_, kx, w⟩
  refine ⟨ρ1, σz, h1, _, E, s.nx n1 r1, fun y h2 ρ2 H2 u n2 r2 p2 w2 => ?_, kx.nx n1, w1⟩
  exact ho ρ2 h2 H2 x y v u F Q r2 (p1.nx r1 n2) p2 (kq.nx (n1.trans n2)) w2

/-! ### binary operators, by values -/
theorem big_eq : big = sizeLine := sizeLine_eq.symm
/-- what is left where values are known -/
def LR2 (X : Cx) (op : PV → PV → Hep → KQ → Prop) : R2 := fun v u H Q => ∃ (ρ : List Addr) (h : Hep) (x y : PV) (F : KQ), HR X.K X.mg ρ h H ∧ Rep X.K ρ H x v ∧ Rep X.K ρ H y u ∧ KQok X ρ H F Q ∧ op x y h F
theorem getL_some {h : Hep} {r : Nat} {F : List PV → Prop} (q : getL h r F) : ∃ xs, h[r]? = some (.lst xs) ∧ F xs := by
  unfold getL at q
  split at q
  · exact ⟨_, by assumption, q⟩
  · exact q.elim
/-- a fresh list -/
theorem KQok.newL {ρ : List Addr} {h : Hep} {H : Hp} {F : KQ} {Q : VK} (kq : KQok X ρ H F Q) (r : HR X.K X.mg ρ h H) {xs : List PV} {vs : List V} (q : Reps X.K ρ H xs vs) (w : F (.ref h.length) (h ++ [.lst xs])) {p : Addr} (hp : H p = none) : Q (.ref p) (upd H p (.lst vs)) := by
  have al := fun (u : HO) => (r.tupl hp u).2
  have n : Nx ρ H (ρ ++ [p]) (upd H p (.lst vs)) := ⟨⟨[p], rfl⟩, fun a w q _ => by rw [upd_ne (ne_of_none q hp)]; exact q, fun a q z => by
    rcases List.mem_append.mp q with q | q
    · exact absurd q z
    · rw [List.mem_singleton.mp q]; exact hp⟩
  obtain ⟨r1, n1⟩ := r.alloc hp (u := .lst vs) (o := .lst xs) ⟨vs, upd_same, q.nx r n⟩
  exact kq (.ref h.length) _ _ _ _ n1 r1 ⟨p, by rw [← r.len]; simp, rfl⟩ w
/-- a fresh tuple -/
theorem KQok.newT {ρ : List Addr} {h : Hep} {H : Hp} {F : KQ} {Q : VK} (kq : KQok X ρ H F Q) (r : HR X.K X.mg ρ h H) {xs : List PV} {vs : List V} (q : Reps X.K ρ H xs vs) (w : F (.tup xs) h) {p : Addr} (hp : H p = none) : Q (.ref p) (upd H p (.tup vs)) := by
  obtain ⟨r1, n1⟩ := r.tupl hp (.tup vs)
  exact kq (.tup xs) _ _ _ _ n1 r1 ⟨p, vs, rfl, upd_same, q.nx r n1⟩ w
theorem KQok.newW {ρ : List Addr} {h : Hep} {H : Hp} {F : KQ} {Q : VK} (kq : KQok X ρ H F Q) (r : HR X.K X.mg ρ h H) {xs : List PV} {vs : List V} (q : Reps X.K ρ H xs vs) {o : Obj} (d : o.dict = none) (w : F (.itp xs) h) {p : Addr} (hp : H p = none) : Q (.ref p) (upd H p (.frz o (.tup vs))) := by
  obtain ⟨r1, n1⟩ := r.tupl hp (.frz o (.tup vs))
  exact kq (.itp xs) _ _ _ _ n1 r1 ⟨p, vs, rfl, .inl ⟨o, d, upd_same⟩, q.nx r n1⟩ w
theorem KQok.here {ρ : List Addr} {h : Hep} {H : Hp} {F : KQ} {Q : VK} (kq : KQok X ρ H F Q) (r : HR X.K X.mg ρ h H) {x : PV} {v : V} (q : Rep X.K ρ H x v) (w : F x h) : Q v H := kq _ _ _ _ _ Nx.refl r q w
theorem KQok.int {ρ : List Addr} {h : Hep} {H : Hp} {F : KQ} {Q : VK} (kq : KQok X ρ H F Q) (r : HR X.K X.mg ρ h H) {i : Int} (w : F (.int i) h) : Q (.int i) H := kq.here r (x := .int i) rfl w
theorem KQok.str {ρ : List Addr} {h : Hep} {H : Hp} {F : KQ} {Q : VK} (kq : KQok X ρ H F Q) (r : HR X.K X.mg ρ h H) {i : Str} (w : F (.str i) h) : Q (.str i) H := kq.here r (x := .str i) rfl w
theorem KQok.bl {ρ : List Addr} {h : Hep} {H : Hp} {F : KQ} {Q : VK} (kq : KQok X ρ H F Q) (r : HR X.K X.mg ρ h H) {i : Bool} (w : F (.bl i) h) : Q (.bl i) H := kq.here r (x := .bl i) rfl w
theorem KQok.non {ρ : List Addr} {h : Hep} {H : Hp} {F : KQ} {Q : VK} (kq : KQok X ρ H F Q) (r : HR X.K X.mg ρ h H) (w : F .non h) : Q .non H := kq.here r (x := .non) rfl w

theorem or_bin (o : Operator) : OpR X (binaryOp o) (LR2 X (binW o)) := by
  intro pins s σ H x y v u Q I rx ry q
  obtain ⟨ρ, h, x', y', F, r, p1, p2, kq, w⟩ := q
  unfold binW at w
  split at w
  · rename_i i j
    obtain rfl := p1
    obtain rfl := p2
    cases o with
    | Add => exact op_add pins s σ H _ _ v u Q I rx ry ⟨i, j, rfl, rfl, kq.int r w⟩
    | Sub => exact op_sub pins s σ H _ _ v u Q I rx ry ⟨i, j, rfl, rfl, kq.int r w⟩
    | Mult =>
      obtain ⟨c, w⟩ : mulOk i j ∧ F (.int (i * j)) h := w
      have q := kq.int r w
      rcases c with c | c | c
      · exact op_mul pins s σ H _ _ v u Q I rx ry ⟨i, j, rfl, rfl, .inl c, q⟩
      · exact op_mul pins s σ H _ _ v u Q I rx ry ⟨i, j, rfl, rfl, .inr c, q⟩
      · exact op_mulW pins s σ H _ _ v u Q I rx ry ⟨i, j, rfl, rfl, c, q⟩
    | FloorDiv =>
      obtain ⟨c, w⟩ : divOk j ∧ F (.int (i / j)) h := w
      exact op_fdivW pins s σ H _ _ v u Q I rx ry ⟨i, j, rfl, rfl, c, kq.int r w⟩
    | Mod =>
      obtain ⟨c, w⟩ : 0 < j ∧ F (.int (i % j)) h := w
      exact op_mod pins s σ H _ _ v u Q I rx ry ⟨i, j, rfl, rfl, c, kq.int r w⟩
    | Pow =>
      obtain ⟨c, w⟩ : powOk i j ∧ F (.int (i ^ j.toNat)) h := w
      exact op_pow pins s σ H _ _ v u Q I rx ry ⟨i, j, rfl, rfl, c, kq.int r w⟩
    | LShift =>
      obtain ⟨c, w⟩ : powOk i j ∧ F (.int (i * 2 ^ j.toNat)) h := w
      exact op_shl pins s σ H _ _ v u Q I rx ry ⟨i, j, rfl, rfl, c, kq.int r w⟩
    | RShift =>
      obtain ⟨c, w⟩ : 0 ≤ j ∧ F (.int (i / 2 ^ j.toNat)) h := w
      exact op_shr pins s σ H _ _ v u Q I rx ry ⟨i, j, rfl, rfl, c, kq.int r w⟩
    | BitAnd => exact op_and pins s σ H _ _ v u Q I rx ry ⟨i, j, rfl, rfl, kq.int r w⟩
    | _ => exact False.elim w
  · rename_i i j
    obtain ⟨rfl, z, w⟩ := w
    obtain rfl := p1
    obtain rfl := p2
    exact op_add_str pins s σ H _ _ v u Q I rx ry ⟨i, j, rfl, rfl, by rw [← big_eq]; exact z, kq.str r w⟩
  · rename_i z k
    obtain ⟨rfl, k0, k1, hl, w⟩ := w
    obtain rfl := p1
    obtain rfl := p2
    exact Zh.op_rep_str pins s σ H _ _ v u Q I rx ry ⟨z, k, rfl, rfl, k0, k1, hl, kq.str r w⟩
  · rename_i xs ys
    obtain ⟨rfl, z, w⟩ := w
    obtain ⟨a1, vs, rfl, t1, q1⟩ := p1
    obtain ⟨a2, us, rfl, t2, q2⟩ := p2
    refine op_catA pins s σ H _ _ v u Q I rx ry ⟨a1, a2, vs, us, rfl, rfl, t1.sq, t2.sq, by rw [← big_eq, ← q1.len, ← q2.len]; exact z, fun z => ?_, fun _ z => ?_, fun _ _ p hp => ?_⟩
    · subst z
      have : xs = [] := List.length_eq_zero_iff.mp q1.len
      subst this
      exact kq.here r (x := .tup ys) ⟨a2, us, rfl, t2, q2⟩ w
    · subst z
      have : ys = [] := List.length_eq_zero_iff.mp q2.len
      subst this
      rw [List.append_nil] at w
      exact kq.here r (x := .tup xs) ⟨a1, vs, rfl, t1, q1⟩ w
    · exact kq.newT r (q1.app q2) w hp
  · rename_i xs ys
    obtain ⟨rfl, z, w⟩ := w
    obtain ⟨a1, vs, rfl, t1, q1⟩ := p1
    obtain ⟨a2, us, rfl, t2, q2⟩ := p2
    refine Zh.op_catW pins s σ H _ _ v u Q I rx ry ⟨a1, a2, vs, us, rfl, rfl, t1.sq, t2.sq, by rw [← big_eq, ← q1.len, ← q2.len]; exact z, fun z => ?_, fun _ z => ?_, fun _ _ p o d hp => ?_⟩
    · subst z
      have : xs = [] := List.length_eq_zero_iff.mp q1.len
      subst this
      exact kq.here r (x := .itp ys) ⟨a2, us, rfl, t2, q2⟩ w
    · subst z
      have : ys = [] := List.length_eq_zero_iff.mp q2.len
      subst this
      rw [List.append_nil] at w
      exact kq.here r (x := .itp xs) ⟨a1, vs, rfl, t1, q1⟩ w
    · exact kq.newW r (q1.app q2) d w hp
  · rename_i xs k
    obtain ⟨rfl, ne, k1, k2, l, w⟩ := w
    obtain ⟨a1, vs, rfl, t1, q1⟩ := p1
    obtain rfl := p2
    by_cases kz : k = 0
    · subst kz
      refine Zh.op_repT0 pins s σ H _ _ v u Q I rx ry ⟨a1, vs, rfl, rfl, t1.sq, fun z => ne ?_, fun p hp => ?_⟩
      · subst z
        exact List.length_eq_zero_iff.mp q1.len
      · exact kq.newT r (xs := []) (vs := []) rfl w hp
    have k1 : 1 ≤ k := by omega
    refine Zh.op_repT pins s σ H _ _ v u Q I rx ry ⟨a1, k, vs, rfl, rfl, t1.sq, fun z => ne ?_, k1, k2, by rw [← q1.len]; exact l, fun z => ?_, fun p hp => ?_⟩
    · subst z
      exact List.length_eq_zero_iff.mp q1.len
    · subst z
      rw [show (List.replicate (1 : Int).toNat xs).flatten = xs from List.append_nil xs] at w
      exact kq.here r (x := .tup xs) ⟨a1, vs, rfl, t1, q1⟩ w
    · exact kq.newT r (q1.rep _) w hp
  · rename_i xs k
    obtain ⟨rfl, ne, k1, k2, l, w⟩ := w
    obtain ⟨a1, vs, rfl, t1, q1⟩ := p1
    obtain rfl := p2
    by_cases kz : k = 0
    · subst kz
      refine Zh.op_repW0 pins s σ H _ _ v u Q I rx ry ⟨a1, vs, rfl, rfl, t1.sq, fun z => ne ?_, fun p o d hp => ?_⟩
      · subst z
        exact List.length_eq_zero_iff.mp q1.len
      · exact kq.newW r (xs := []) (vs := []) rfl d w hp
    have k1 : 1 ≤ k := by omega
    refine Zh.op_repW pins s σ H _ _ v u Q I rx ry ⟨a1, k, vs, rfl, rfl, t1.sq, fun z => ne ?_, k1, k2, by rw [← q1.len]; exact l, fun z => ?_, fun p o d hp => ?_⟩
    · subst z
      exact List.length_eq_zero_iff.mp q1.len
    · subst z
      rw [show (List.replicate (1 : Int).toNat xs).flatten = xs from List.append_nil xs] at w
      exact kq.here r (x := .itp xs) ⟨a1, vs, rfl, t1, q1⟩ w
    · exact kq.newW r (q1.rep _) d w hp
  · rename_i i j
    obtain ⟨rfl, w⟩ := w
    obtain ⟨xs, e1, w⟩ := getL_some w
    obtain ⟨ys, e2, z, w⟩ := getL_some w
    obtain ⟨a1, f1, rfl⟩ := p1
    obtain ⟨a2, f2, rfl⟩ := p2
    obtain ⟨b1, vs, g1, k1, q1⟩ := r.lst e1
    obtain ⟨b2, us, g2, k2, q2⟩ := r.lst e2
    rw [f1] at g1; cases g1
    rw [f2] at g2; cases g2
    refine op_cat pins s σ H _ _ v u Q I rx ry ⟨a1, a2, vs, us, rfl, rfl, k1, k2, by rw [← big_eq, ← q1.len, ← q2.len]; exact z, fun p hp => ?_⟩
    exact kq.newL r (q1.app q2) w hp
  · rename_i i k
    obtain ⟨rfl, w⟩ := w
    obtain ⟨xs, e1, z1, z2, z, w⟩ := getL_some w
    obtain ⟨a1, f1, rfl⟩ := p1
    obtain rfl := p2
    obtain ⟨b1, vs, g1, k1, q1⟩ := r.lst e1
    rw [f1] at g1; cases g1
    refine op_rep pins s σ H _ _ v u Q I rx ry ⟨a1, k, vs, rfl, rfl, k1, z1, z2, by rw [← big_eq, ← q1.len]; exact z, fun p hp => ?_⟩
    exact kq.newL r (q1.rep _) w hp
  · exact w.elim
end
end Z

/-! ZsC: operations by values: truth, ==, in, order, subscripts, slices, stores, dicts. -/
namespace Z
open PySem L2
section
variable {X : Cx} {W : WX} {ρ ρ' : List Addr} {h h' : Hep} {H H' : Hp} {x y z : PV} {v u w : V}

/-! ### truth -/
theorem tru_of {K : Bool → Prop} (r : HR X.K X.mg ρ h H) (p : Rep X.K ρ H x v) (q : truW h x K) : ∃ k, TruV X.K v H k ∧ K k := by
  cases x with
  | non => obtain rfl := p; exact ⟨false, rfl, q⟩
  | bl b => obtain rfl := p; exact ⟨b, rfl, q⟩
  | int i => obtain rfl := p; exact ⟨_, rfl, q⟩
  | exc c ns xs => exact q.elim
  | fnv f c q' xs vs => exact q.elim
  | lam ds k q' cl => exact q.elim
  | str s =>
    obtain rfl := p
    obtain ⟨z, q⟩ : s.length ≤ big ∧ K ((s.length : Int) != 0) := q
    exact ⟨_, ⟨by rw [← big_eq]; exact z, rfl⟩, q⟩
  | tup xs =>
    obtain ⟨a, vs, rfl, t, ps⟩ := p
    exact ⟨_, .inr (.inl ⟨vs, t.sq, rfl⟩), by rw [← ps.nil_iff]; exact q⟩
  | itp xs =>
    obtain ⟨a, vs, rfl, t, ps⟩ := p
    exact ⟨_, .inr (.inl ⟨vs, t.sq, rfl⟩), by rw [← ps.nil_iff]; exact q⟩
  | ils xs =>
    obtain ⟨a, vs, rfl, t, ps⟩ := p
    exact ⟨_, .inl ⟨vs, t.sq, rfl⟩, by rw [← ps.nil_iff]; exact q⟩
  | ref i =>
    obtain ⟨xs, e, q⟩ := getL_some (show getL h i fun xs => K (!xs.isEmpty) from q)
    obtain ⟨a, e1, rfl⟩ := p
    obtain ⟨b, vs, e2, k, ps⟩ := r.lst e
    rw [e1] at e2; cases e2
    exact ⟨_, .inl ⟨vs, SqL.of k, rfl⟩, by rw [← ps.nil_iff]; exact q⟩

/-! ### data -/
theorem dat_all (f : PV → Option PyData) (hf : ∀ (x : PV) (v : V) (d : PyData), Rep X.K ρ H x v → f x = some d → Dp X.K H v d) :
    ∀ (xs : List PV) (vs : List V) (ds : List PyData), Reps X.K ρ H xs vs → datAll f xs = some ds → DpAll X.K H vs ds
  | [], vs, ds, p, e => by
    cases p
    simp only [datAll, Option.some.injEq] at e
    subst e
    exact .nil
  | x :: xs, vs, ds, ⟨v, r, e1, p, ps⟩, e => by
    subst e1
    unfold datAll at e
    split at e
    · rename_i d ds' h1 h2
      cases e
      exact .cons (hf x v d p h1) (dat_all f hf xs r ds' ps h2)
    · cases e
theorem dat_dp (r : HR X.K X.mg ρ h H) : ∀ (n : Nat) (x : PV) (v : V) (d : PyData), Rep X.K ρ H x v → dat h n x = some d → Dp X.K H v d := by
  intro n
  induction n with
  | zero =>
    intro x v d p e
    cases x with
    | non => obtain rfl := p; cases e; exact .non
    | bl b => obtain rfl := p; cases e; exact .bl b
    | int i => obtain rfl := p; cases e; exact .int i
    | str s => obtain rfl := p; cases e; exact .str s
    | _ => cases e
  | succ n ih =>
    intro x v d p e
    cases x with
    | non => obtain rfl := p; cases e; exact .non
    | bl b => obtain rfl := p; cases e; exact .bl b
    | int i => obtain rfl := p; cases e; exact .int i
    | str s => obtain rfl := p; cases e; exact .str s
    | exc c ns xs => cases e
    | fnv f c q' xs vs => cases e
    | lam ds k q' cl => cases e
    | tup xs =>
      obtain ⟨a, vs, rfl, t, ps⟩ := p
      have e' : (datAll (dat h n) xs).map PyData.tuple = some d := e
      cases q : datAll (dat h n) xs with
      | none => rw [q] at e'; cases e'
      | some ds =>
        rw [q] at e'
        cases e'
        exact .tup t.sq (dat_all _ ih xs vs ds ps q)
    | itp xs =>
      obtain ⟨a, vs, rfl, t, ps⟩ := p
      have e' : (datAll (dat h n) xs).map PyData.tuple = some d := e
      cases q : datAll (dat h n) xs with
      | none => rw [q] at e'; cases e'
      | some ds =>
        rw [q] at e'
        cases e'
        exact .tup t.sq (dat_all _ ih xs vs ds ps q)
    | ils xs =>
      obtain ⟨a, vs, rfl, t, ps⟩ := p
      have e' : (datAll (dat h n) xs).map PyData.list = some d := e
      cases q : datAll (dat h n) xs with
      | none => rw [q] at e'; cases e'
      | some ds =>
        rw [q] at e'
        cases e'
        exact .lst t.sq (dat_all _ ih xs vs ds ps q)
    | ref i =>
      have e' : (match h[i]? with | some (.lst xs) => (datAll (dat h n) xs).map PyData.list | _ => none) = some d := e
      split at e'
      · rename_i xs hi
        obtain ⟨a, e1, rfl⟩ := p
        obtain ⟨b, vs, e2, k, ps⟩ := r.lst hi
        rw [e1] at e2; cases e2
        cases q : datAll (dat h n) xs with
        | none => rw [q] at e'; cases e'
        | some ds =>
          rw [q] at e'
          cases e'
          exact .lst (SqL.of k) (dat_all _ ih xs vs ds ps q)
      · cases e'

/-! ### dicts -/
theorem keyOf_one {k : At} (e : keyOf x = some (.one k)) (p : Rep X.K ρ H x v) : v = kV k := by
  cases x with
  | int i => simp [keyOf] at e; subst e; exact p
  | str s => simp [keyOf] at e; subst e; exact p
  | tup xs =>
    simp only [keyOf] at e
    cases q : keyAtoms xs with
    | none => rw [q] at e; cases e
    | some ks => rw [q] at e; cases e
  | _ => simp [keyOf] at e
theorem keyAtoms_rep : ∀ {xs : List PV} {vs : List V} {ks : List At}, keyAtoms xs = some ks → Reps X.K ρ H xs vs → vs = ks.map kV
  | [], vs, ks, e, p => by cases p; simp [keyAtoms] at e; subst e; rfl
  | x :: xs, vs, ks, e, ⟨v, r, e1, p, ps⟩ => by
    subst e1
    unfold keyAtoms at e
    split at e
    · rename_i k ks' h1 h2
      cases e
      rw [keyAtoms_rep h2 ps]
      cases x with
      | int i => simp [keyAtom] at h1; subst h1; obtain rfl := p; rfl
      | str s => simp [keyAtom] at h1; subst h1; obtain rfl := p; rfl
      | _ => simp [keyAtom] at h1
    · cases e
theorem keyOf_many {ks : List At} (e : keyOf x = some (.many ks)) (p : Rep X.K ρ H x v) : ∃ b, v = .ref b ∧ H b = some (.tup (ks.map kV)) := by
  cases x with
  | tup xs =>
    simp only [keyOf] at e
    cases q : keyAtoms xs with
    | none => rw [q] at e; cases e
    | some js =>
      rw [q] at e
      cases e
      obtain ⟨a, vs, rfl, t, ps⟩ := p
      rw [keyAtoms_rep q ps] at t
      exact ⟨a, rfl, t⟩
  | int i => simp [keyOf] at e
  | str s => simp [keyOf] at e
  | _ => simp [keyOf] at e
theorem valV_cons {κ : Type} [DecidableEq κ] (j k : κ) (v : V) (r : List (κ × V)) : valV ((j, v) :: r) k = if j = k then some v else valV r k := by
  by_cases e : j = k
  · rw [if_pos e]; exact valV_pos (p := (j, v)) e
  · rw [if_neg e]; exact valV_neg (p := (j, v)) e
theorem d1_get : ∀ {kvs : List (Ky × PV)} {ws : List (Key × V)} (k : Key), RepD1 X.K ρ H kvs ws → (dget (.one k) kvs = none ∧ valV ws k = none) ∨ ∃ x v, dget (.one k) kvs = some x ∧ valV ws k = some v ∧ Rep X.K ρ H x v
  | [], _, k, q => by cases q; exact .inl ⟨rfl, rfl⟩
  | (j, x) :: r, _, k, ⟨j', v, r', e, e2, p, ps⟩ => by
    subst e e2
    rw [valV_cons]
    unfold dget
    by_cases hj : j' = k
    · subst hj
      rw [if_pos rfl, if_pos rfl]
      exact .inr ⟨x, v, rfl, rfl, p⟩
    · rw [if_neg hj, if_neg (fun z => hj (Ky.one.inj z))]
      exact d1_get k ps
theorem d2_get : ∀ {kvs : List (Ky × PV)} {ws : List (List Key × V)} (k : List Key), RepD2 X.K ρ H kvs ws → (dget (.many k) kvs = none ∧ valV ws k = none) ∨ ∃ x v, dget (.many k) kvs = some x ∧ valV ws k = some v ∧ Rep X.K ρ H x v
  | [], _, k, q => by cases q; exact .inl ⟨rfl, rfl⟩
  | (j, x) :: r, _, k, ⟨j', v, r', e, e2, p, ps⟩ => by
    subst e e2
    rw [valV_cons]
    unfold dget
    by_cases hj : j' = k
    · subst hj
      rw [if_pos rfl, if_pos rfl]
      exact .inr ⟨x, v, rfl, rfl, p⟩
    · rw [if_neg hj, if_neg (fun z => hj (Ky.many.inj z))]
      exact d2_get k ps
theorem d1_many : ∀ {kvs : List (Ky × PV)} {ws : List (Key × V)} (k : List At), RepD1 X.K ρ H kvs ws → dget (.many k) kvs = none
  | [], _, k, _ => rfl
  | (j, x) :: r, _, k, ⟨j', v, r', e, e2, p, ps⟩ => by
    subst e e2
    unfold dget
    rw [if_neg (fun z => by cases z)]
    exact d1_many k ps
theorem d2_one : ∀ {kvs : List (Ky × PV)} {ws : List (List Key × V)} (k : At), RepD2 X.K ρ H kvs ws → dget (.one k) kvs = none
  | [], _, k, _ => rfl
  | (j, x) :: r, _, k, ⟨j', v, r', e, e2, p, ps⟩ => by
    subst e e2
    unfold dget
    rw [if_neg (fun z => by cases z)]
    exact d2_one k ps
/-- what a dict tells of a key that is there -/
theorem dic_some {i : Nat} {kvs : List (Ky × PV)} {k : Ky} {a : Addr} (r : HR X.K X.mg ρ h H) (e : h[i]? = some (.dic kvs)) (e1 : ρ[i]? = some a) (hk : keyOf y = some k) (p : Rep X.K ρ H y u) (g : dget k kvs = some z) :
    ∃ w, DGet H a u (some w) ∧ Rep X.K ρ H z w := by
  obtain ⟨b, e2, q⟩ := r.get e
  rw [e1] at e2; cases e2
  rcases q with ⟨ws, hd, q⟩ | ⟨ws, hd, q⟩
  · cases k with
    | one k =>
      rcases d1_get k q with ⟨g1, _⟩ | ⟨x', w, g1, g2, rp⟩
      · rw [g] at g1; cases g1
      · rw [g] at g1; cases g1
        exact ⟨w, .inl ⟨ws, k, .inl hd, keyOf_one hk p, g2.symm⟩, rp⟩
    | many k => rw [d1_many k q] at g; cases g
  · cases k with
    | many k =>
      rcases d2_get k q with ⟨g1, _⟩ | ⟨x', w, g1, g2, rp⟩
      · rw [g] at g1; cases g1
      · rw [g] at g1; cases g1
        obtain ⟨b, rfl, hb⟩ := keyOf_many hk p
        exact ⟨w, .inr ⟨ws, k, b, .inl hd, rfl, hb, g2.symm⟩, rp⟩
    | one k => rw [d2_one k q] at g; cases g
/-- the same of a locked dict -/
theorem ldc_some {i : Nat} {kvs : List (Ky × PV)} {u0 : HO} {k : Ky} {a : Addr} (r : HR X.K X.mg ρ h H) (e : h[i]? = some (.ldc u0 kvs)) (e1 : ρ[i]? = some a) (hk : keyOf y = some k) (p : Rep X.K ρ H y u) (g : dget k kvs = some z) :
    ∃ w, DGet H a u (some w) ∧ Rep X.K ρ H z w := by
  obtain ⟨b, e2, q⟩ := r.get e
  rw [e1] at e2; cases e2
  obtain ⟨hd, q⟩ := q
  rcases q with ⟨od, ws, rfl, q⟩ | ⟨od, ws, rfl, q⟩
  · cases k with
    | one k =>
      rcases d1_get k q with ⟨g1, _⟩ | ⟨x', w, g1, g2, rp⟩
      · rw [g] at g1; cases g1
      · rw [g] at g1; cases g1
        exact ⟨w, .inl ⟨ws, k, .inr ⟨od, hd⟩, keyOf_one hk p, g2.symm⟩, rp⟩
    | many k => rw [d1_many k q] at g; cases g
  · cases k with
    | many k =>
      rcases d2_get k q with ⟨g1, _⟩ | ⟨x', w, g1, g2, rp⟩
      · rw [g] at g1; cases g1
      · rw [g] at g1; cases g1
        obtain ⟨b, rfl, hb⟩ := keyOf_many hk p
        exact ⟨w, .inr ⟨ws, k, b, .inr ⟨od, hd⟩, rfl, hb, g2.symm⟩, rp⟩
    | one k => rw [d2_one k q] at g; cases g
/-- an empty dict is one of both kinds -/
theorem toT {pins : List (Addr × Obj)} {σ : St} {s : Shared} {a : Addr} (I : Inv X pins σ H s) (e : H a = some (.dK [])) : Inv X pins σ (upd H a (.dT [])) s := by
  obtain ⟨_, hd, vs, rel, dd⟩ : ([] : List (Key × V)).length ≤ sizeLine ∧ (a == sysModules) = false ∧ ∃ vs, KV ([] : List (Key × V)) vs ∧ s.heap.DictOf (mixKind X.prog X.w) a vs := I.hok a _ e
  cases rel
  obtain ⟨o, es, ep, h1, h2, h3, h4, h5, h6⟩ := id dd
  have e0 : es.toList = [] := by
    cases hh : es.toList with
    | nil => rfl
    | cons x r => rw [hh] at h5; cases h5
  have J : Inv X pins σ (upd H a (.dT [])) { s with heap := s.heap, toks := s.toks } := I.write (t' := s.toks) (x := a) (e := a) (by rw [e]; trivial) (.inl rfl) (fun b u _ q => q) ⟨o, h1⟩ ⟨Nat.zero_le _, hd, [], .nil, o, es, ep, h1, h2, h3, by rw [e0]; rfl, List.nodup_nil⟩
  exact J
theorem toK {pins : List (Addr × Obj)} {σ : St} {s : Shared} {a : Addr} (I : Inv X pins σ H s) (e : H a = some (.dT [])) : Inv X pins σ (upd H a (.dK [])) s := by
  obtain ⟨_, hd, vs, rel, o, es, ep, h1, h2, h3, h4, h5⟩ := id (I.hok a _ e)
  cases rel
  have e0 : es.toList = [] := h4
  have kk : KeysOf (mixKind X.prog X.w) es := fun d hd' => by
    have hd2 : d ∈ es.toList := by simpa using hd'
    rw [e0] at hd2
    cases hd2
  have pp : Pairs (mixKind X.prog X.w) es.toList [] := by
    rw [e0]
    exact .nil
  have dd : s.heap.DictOf (mixKind X.prog X.w) a [] := ⟨o, es, ep, h1, h2, h3, kk, pp, List.nodup_nil⟩
  have J : Inv X pins σ (upd H a (.dK [])) { s with heap := s.heap, toks := s.toks } := I.write (t' := s.toks) (x := a) (e := a) (by rw [e]; trivial) (.inl rfl) (fun b u _ q => q) ⟨o, h1⟩ ⟨Nat.zero_le _, hd, [], .nil, dd⟩
  exact J
theorem d1_kind {kvs : List (Ky × PV)} {ws : List (Key × V)} {k : List At} (q : RepD1 X.K ρ H kvs ws) (z : kindOk (.many k) kvs = true) : kvs = [] ∧ ws = [] := by
  cases kvs with
  | nil => cases q; exact ⟨rfl, rfl⟩
  | cons p r =>
    obtain ⟨j, x⟩ := p
    obtain ⟨j', v, r', e, e2, _⟩ := q
    subst e2
    cases z
theorem d2_kind {kvs : List (Ky × PV)} {ws : List (List Key × V)} {k : At} (q : RepD2 X.K ρ H kvs ws) (z : kindOk (.one k) kvs = true) : kvs = [] ∧ ws = [] := by
  cases kvs with
  | nil => cases q; exact ⟨rfl, rfl⟩
  | cons p r =>
    obtain ⟨j, x⟩ := p
    obtain ⟨j', v, r', e, e2, _⟩ := q
    subst e2
    cases z
/-- the dict as its keys want it: the same heap, told otherwise -/
theorem dic_any {pins : List (Addr × Obj)} {σ : St} {s : Shared} {i : Nat} {kvs : List (Ky × PV)} {k : Ky} {a : Addr} (I : Inv X pins σ H s) (r : HR X.K X.mg ρ h H) (e : h[i]? = some (.dic kvs)) (e1 : ρ[i]? = some a) (hk : keyOf y = some k) (p : Rep X.K ρ H y u) (kk : kindOk k kvs = true) :
    ∃ H1 o, Inv X pins σ H1 s ∧ Nx ρ H ρ H1 ∧ HR X.K X.mg ρ h H1 ∧ DGet H1 a u o ∧ o.isSome = (dget k kvs).isSome := by
  obtain ⟨b, e2, q⟩ := r.get e
  rw [e1] at e2; cases e2
  have hi : i < h.length := (List.getElem?_eq_some_iff.mp e).1
  have hself : h.set i (.dic kvs) = h := by
    obtain ⟨_, ee⟩ := List.getElem?_eq_some_iff.mp e
    rw [← ee]
    exact List.set_getElem_self _
  rcases q with ⟨ws, hd, q⟩ | ⟨ws, hd, q⟩
  · cases k with
    | one k =>
      rcases d1_get k q with ⟨g1, g2⟩ | ⟨x', w, g1, g2, rp⟩
      · exact ⟨H, _, I, .refl, r, .inl ⟨ws, k, .inl hd, keyOf_one hk p, rfl⟩, by rw [g1, g2] <;> rfl⟩
      · exact ⟨H, _, I, .refl, r, .inl ⟨ws, k, .inl hd, keyOf_one hk p, rfl⟩, by rw [g1, g2] <;> rfl⟩
    | many k =>
      obtain ⟨rfl, rfl⟩ := d1_kind q kk
      obtain ⟨b, rfl, hb⟩ := keyOf_many hk p
      have wr := r.write (i := i) (a := a) e1 (u := .dT []) (o := .dic []) (.inr ⟨[], upd_same, rfl⟩)
      rw [hself] at wr
      exact ⟨upd H a (.dT []), _, toT I hd, wr.2, wr.1, .inr ⟨[], k, b, .inl upd_same, rfl, (upd_ne (ne_of hb hd (by intro z; cases z))).trans hb, rfl⟩, rfl⟩
  · cases k with
    | many k =>
      obtain ⟨b, rfl, hb⟩ := keyOf_many hk p
      rcases d2_get k q with ⟨g1, g2⟩ | ⟨x', w, g1, g2, rp⟩
      · exact ⟨H, _, I, .refl, r, .inr ⟨ws, k, b, .inl hd, rfl, hb, rfl⟩, by rw [g1, g2] <;> rfl⟩
      · exact ⟨H, _, I, .refl, r, .inr ⟨ws, k, b, .inl hd, rfl, hb, rfl⟩, by rw [g1, g2] <;> rfl⟩
    | one k =>
      obtain ⟨rfl, rfl⟩ := d2_kind q kk
      have wr := r.write (i := i) (a := a) e1 (u := .dK []) (o := .dic []) (.inl ⟨[], upd_same, rfl⟩)
      rw [hself] at wr
      exact ⟨upd H a (.dK []), _, toK I hd, wr.2, wr.1, .inl ⟨[], k, .inl upd_same, keyOf_one hk p, rfl⟩, rfl⟩

/-! ### d[k] = v -/
theorem d1_map (k : Key) {v : V} (rp : Rep X.K ρ H x v) : ∀ {kvs : List (Ky × PV)} {ws : List (Key × V)}, RepD1 X.K ρ H kvs ws →
    RepD1 X.K ρ H (kvs.map fun p => if p.1 = .one k then (p.1, x) else p) (ws.map fun kv => if kv.1 = k then (kv.1, v) else kv)
  | [], _, q => by cases q; exact rfl
  | (j, y) :: r, _, ⟨j', u, r', e, e2, p, ps⟩ => by
    subst e e2
    rw [List.map_cons, List.map_cons]
    by_cases hj : j' = k
    · subst hj
      rw [if_pos rfl, if_pos rfl]
      exact ⟨_, _, _, rfl, rfl, rp, d1_map j' rp ps⟩
    · rw [if_neg hj, if_neg (fun z => hj (Ky.one.inj z))]
      exact ⟨_, _, _, rfl, rfl, p, d1_map k rp ps⟩
theorem d2_map (k : List Key) {v : V} (rp : Rep X.K ρ H x v) : ∀ {kvs : List (Ky × PV)} {ws : List (List Key × V)}, RepD2 X.K ρ H kvs ws →
    RepD2 X.K ρ H (kvs.map fun p => if p.1 = .many k then (p.1, x) else p) (ws.map fun kv => if kv.1 = k then (kv.1, v) else kv)
  | [], _, q => by cases q; exact rfl
  | (j, y) :: r, _, ⟨j', u, r', e, e2, p, ps⟩ => by
    subst e e2
    rw [List.map_cons, List.map_cons]
    by_cases hj : j' = k
    · subst hj
      rw [if_pos rfl, if_pos rfl]
      exact ⟨_, _, _, rfl, rfl, rp, d2_map j' rp ps⟩
    · rw [if_neg hj, if_neg (fun z => hj (Ky.many.inj z))]
      exact ⟨_, _, _, rfl, rfl, p, d2_map k rp ps⟩
theorem d1_app {k : Key} {v : V} (rp : Rep X.K ρ H x v) : ∀ {kvs : List (Ky × PV)} {ws : List (Key × V)}, RepD1 X.K ρ H kvs ws → RepD1 X.K ρ H (kvs ++ [(.one k, x)]) (ws ++ [(k, v)])
  | [], _, q => by cases q; exact ⟨_, _, _, rfl, rfl, rp, rfl⟩
  | (j, y) :: r, _, ⟨j', u, r', e, e2, p, ps⟩ => by subst e e2; exact ⟨_, _, _, rfl, rfl, p, d1_app rp ps⟩
theorem d2_app {k : List Key} {v : V} (rp : Rep X.K ρ H x v) : ∀ {kvs : List (Ky × PV)} {ws : List (List Key × V)}, RepD2 X.K ρ H kvs ws → RepD2 X.K ρ H (kvs ++ [(.many k, x)]) (ws ++ [(k, v)])
  | [], _, q => by cases q; exact ⟨_, _, _, rfl, rfl, rp, rfl⟩
  | (j, y) :: r, _, ⟨j', u, r', e, e2, p, ps⟩ => by subst e e2; exact ⟨_, _, _, rfl, rfl, p, d2_app rp ps⟩
theorem d1_put (k : Key) {v : V} (rp : Rep X.K ρ H x v) {kvs : List (Ky × PV)} {ws : List (Key × V)} (q : RepD1 X.K ρ H kvs ws) : RepD1 X.K ρ H (dput (.one k) x kvs) (putK ws k v) := by
  unfold dput putK
  rw [valV_any]
  rcases d1_get k q with ⟨g1, g2⟩ | ⟨x', w, g1, g2, _⟩
  · rw [g1, g2, if_neg (by simp), if_neg (by simp)]
    exact d1_app rp q
  · rw [g1, g2, Option.isSome_some, Option.isSome_some, if_pos rfl, if_pos rfl]
    exact d1_map k rp q
theorem d2_put (k : List Key) {v : V} (rp : Rep X.K ρ H x v) {kvs : List (Ky × PV)} {ws : List (List Key × V)} (q : RepD2 X.K ρ H kvs ws) : RepD2 X.K ρ H (dput (.many k) x kvs) (putK ws k v) := by
  unfold dput putK
  rw [valV_any]
  rcases d2_get k q with ⟨g1, g2⟩ | ⟨x', w, g1, g2, _⟩
  · rw [g1, g2, if_neg (by simp), if_neg (by simp)]
    exact d2_app rp q
  · rw [g1, g2, Option.isSome_some, Option.isSome_some, if_pos rfl, if_pos rfl]
    exact d2_map k rp q
theorem d1_len : ∀ {kvs : List (Ky × PV)} {ws : List (Key × V)}, RepD1 X.K ρ H kvs ws → kvs.length = ws.length
  | [], _, q => by cases q; rfl
  | (j, y) :: r, _, ⟨j', u, r', e, e2, p, ps⟩ => by subst e; rw [List.length_cons, List.length_cons, d1_len ps]
theorem d2_len : ∀ {kvs : List (Ky × PV)} {ws : List (List Key × V)}, RepD2 X.K ρ H kvs ws → kvs.length = ws.length
  | [], _, q => by cases q; rfl
  | (j, y) :: r, _, ⟨j', u, r', e, e2, p, ps⟩ => by subst e; rw [List.length_cons, List.length_cons, d2_len ps]
/-- a store into a dict: the heap told otherwise first, where the empty dict was of the other kind -/
theorem dic_put {pins : List (Addr × Obj)} {σ : St} {s : Shared} {i : Nat} {kvs : List (Ky × PV)} {k : Ky} {a : Addr} (I : Inv X pins σ H s) (r : HR X.K X.mg ρ h H) (e : h[i]? = some (.dic kvs)) (e1 : ρ[i]? = some a) (hk : keyOf y = some k) (p : Rep X.K ρ H y u)
    (pz : Rep X.K ρ H z w) (kk : kindOk k kvs = true) (hl : kvs.length < big) :
    ∃ H1 H2, Inv X pins σ H1 s ∧ DPut H1 a u w H2 ∧ Nx ρ H ρ H2 ∧ HR X.K X.mg ρ (h.set i (.dic (dput k z kvs))) H2 := by
  obtain ⟨b, e2, q⟩ := r.get e
  rw [e1] at e2; cases e2
  rcases q with ⟨ws, hd, q⟩ | ⟨ws, hd, q⟩
  · cases k with
    | one k =>
      have wr := fun (new) => r.write (i := i) (a := a) e1 (u := .dK (putK ws k w)) (o := .dic (dput (.one k) z kvs)) new
      have n : Nx ρ H ρ (upd H a (.dK (putK ws k w))) := ⟨⟨[], by simp⟩, fun b o q z => by rw [upd_ne (fun y => z (by rw [y]; exact List.mem_of_getElem? e1) : b ≠ a)]; exact q, fun b q z => absurd q z⟩
      have wr' := wr (.inl ⟨_, upd_same, RepD1.stay (r.stay n) _ _ (d1_put k pz q)⟩)
      exact ⟨H, _, I, .inl ⟨ws, k, hd, keyOf_one hk p, by rw [← big_eq, ← d1_len q]; exact hl, rfl⟩, wr'.2, wr'.1⟩
    | many k =>
      obtain ⟨rfl, rfl⟩ := d1_kind q kk
      obtain ⟨b, rfl, hb⟩ := keyOf_many hk p
      have n : Nx ρ H ρ (upd (upd H a (.dT [])) a (.dT [(k, w)])) := ⟨⟨[], by simp⟩, fun b o q z => by
        have nb : b ≠ a := fun y => z (by rw [y]; exact List.mem_of_getElem? e1)
        rw [upd_ne nb, upd_ne nb]; exact q, fun b q z => absurd q z⟩
      have n' := n
      rw [upd_upd] at n'
      have wr := r.write (i := i) (a := a) e1 (u := .dT [(k, w)]) (o := .dic (dput (.many k) z [])) (.inr ⟨_, upd_same, ⟨k, w, [], rfl, rfl, pz.nx r n', rfl⟩⟩)
      refine ⟨upd H a (.dT []), upd (upd H a (.dT [])) a (.dT [(k, w)]), toT I hd, .inr ⟨[], k, b, upd_same, rfl, (upd_ne (ne_of hb hd (by intro z; cases z))).trans hb, by decide, rfl⟩, n, ?_⟩
      rw [upd_upd]
      exact wr.1
  · cases k with
    | many k =>
      obtain ⟨b, rfl, hb⟩ := keyOf_many hk p
      have n : Nx ρ H ρ (upd H a (.dT (putK ws k w))) := ⟨⟨[], by simp⟩, fun b o q z => by rw [upd_ne (fun y => z (by rw [y]; exact List.mem_of_getElem? e1) : b ≠ a)]; exact q, fun b q z => absurd q z⟩
      have wr' := r.write (i := i) (a := a) e1 (u := .dT (putK ws k w)) (o := .dic (dput (.many k) z kvs)) (.inr ⟨_, upd_same, RepD2.stay (r.stay n) _ _ (d2_put k pz q)⟩)
      exact ⟨H, _, I, .inr ⟨ws, k, b, hd, rfl, hb, by rw [← big_eq, ← d2_len q]; exact hl, rfl⟩, wr'.2, wr'.1⟩
    | one k =>
      obtain ⟨rfl, rfl⟩ := d2_kind q kk
      have n : Nx ρ H ρ (upd (upd H a (.dK [])) a (.dK [(k, w)])) := ⟨⟨[], by simp⟩, fun b o q z => by
        have nb : b ≠ a := fun y => z (by rw [y]; exact List.mem_of_getElem? e1)
        rw [upd_ne nb, upd_ne nb]; exact q, fun b q z => absurd q z⟩
      have n' := n
      rw [upd_upd] at n'
      have wr := r.write (i := i) (a := a) e1 (u := .dK [(k, w)]) (o := .dic (dput (.one k) z [])) (.inl ⟨_, upd_same, ⟨k, w, [], rfl, rfl, pz.nx r n', rfl⟩⟩)
      refine ⟨upd H a (.dK []), upd (upd H a (.dK [])) a (.dK [(k, w)]), toK I hd, .inl ⟨[], k, upd_same, keyOf_one hk p, by decide, rfl⟩, n, ?_⟩
      rw [upd_upd]
      exact wr.1
end
end Z

/-! ZsD: operators and subscripts by values, in the hand layer's words. -/
namespace Z
open PySem L2
section
variable {X : Cx} {W : WX}

/-- a comparison, by values -/
def cmpO (o : CmpOp) (x y : PV) (h : Hep) (F : KQ) : Prop := cmpW o x y h fun t => F (.bl t) h

theorem in_core {neg : Bool} (hu : X.A.units + 65 < cLine) {pins : List (Addr × Obj)} {s : Shared} {σ : St} {H : Hp} {x y : PV} {v u : V} {ov uv : Value} {Q : VK} {ρ : List Addr} {h : Hep} {K : Bool → Prop} (I : Inv X pins σ H s) (rx : RelV v ov) (ry : RelV u uv)
    (r : HR X.K X.mg ρ h H) (px : Rep X.K ρ H x v) (py : Rep X.K ρ H y u) (w : inW h x y K)
    (hQ : ∀ (b : Bool) (H' : Hp), K b → Nx ρ H ρ H' → HR X.K X.mg ρ h H' → Q (.bl (if neg = true then !b else b)) H') :
    wpAny (model X.prog X.w) X.A (compareOp (if neg = true then .NotIn else .In) ov uv) (EP X pins σ Q) X.xe s := by
  have seqs : ∀ {ys : List PV} {es : PyData} , inL h x ys K → (∀ ds, datAll (dat h 59) ys = some ds → ∃ as, Reads s.heap uv (.list ds) as ∨ Reads s.heap uv (.tuple ds) as) →
      wpAny (model X.prog X.w) X.A (compareOp (if neg = true then .NotIn else .In) ov uv) (EP X pins σ Q) X.xe s := by
    intro ys es hi hr
    obtain ⟨d, ds, e1, e2, e3, e4, k⟩ := hi
    obtain ⟨bs, r1⟩ := Dp.reads I d v ov (dat_dp r 59 x v d px e1) rx
    have z := SeqAt.canLay_of_shaped e2
    have dz := SeqAt.depth_of_shaped e2
    have room : X.A.units + 1 + min (PyData.depthAll ds) d.depth < cLine := by
      have := Nat.min_le_right (PyData.depthAll ds) d.depth
      omega
    obtain ⟨as, q⟩ := hr ds e3
    have fin := hQ _ H k .refl r
    cases neg with
    | true =>
      rcases q with q | q
      · exact SeqAt.notIn_list_reads q r1 e4 z room ⟨.bl _, H, I, rfl, fin⟩
      · exact SeqAt.notIn_tuple_reads q r1 e4 z room ⟨.bl _, H, I, rfl, fin⟩
    | false =>
      rcases q with q | q
      · exact SeqAt.in_list_reads q r1 e4 z room ⟨.bl _, H, I, rfl, fin⟩
      · exact SeqAt.in_tuple_reads q r1 e4 z room ⟨.bl _, H, I, rfl, fin⟩
  cases y with
  | str t =>
    obtain rfl := py
    cases x with
    | str s' =>
      obtain rfl := px
      have k : K (!(Builtin.Str.occurrences t s' 0 t.length 1).isEmpty) := w
      have fin := hQ _ H k .refl r
      cases neg with
      | true => exact op_notin_str pins s σ H _ _ ov uv Q I rx ry ⟨s', t, rfl, rfl, fin⟩
      | false => exact op_in_str pins s σ H _ _ ov uv Q I rx ry ⟨s', t, rfl, rfl, fin⟩
    | _ => exact False.elim w
  | tup ys =>
    obtain ⟨a, vs, rfl, t, ps⟩ := py
    refine seqs (es := .none) w fun ds e => ?_
    obtain ⟨as, q⟩ := Dp.reads I (.tuple ds) _ uv (.tup t.sq (dat_all _ (dat_dp r 59) ys vs ds ps e)) ry
    exact ⟨as, .inr q⟩
  | itp ys =>
    obtain ⟨a, vs, rfl, t, ps⟩ := py
    refine seqs (es := .none) w fun ds e => ?_
    obtain ⟨as, q⟩ := Dp.reads I (.tuple ds) _ uv (.tup t.sq (dat_all _ (dat_dp r 59) ys vs ds ps e)) ry
    exact ⟨as, .inr q⟩
  | ils ys =>
    obtain ⟨a, vs, rfl, t, ps⟩ := py
    refine seqs (es := .none) w fun ds e => ?_
    obtain ⟨as, q⟩ := Dp.reads I (.list ds) _ uv (.lst t.sq (dat_all _ (dat_dp r 59) ys vs ds ps e)) ry
    exact ⟨as, .inl q⟩
  | ref i =>
    have w' : (match h[i]? with
      | some (.lst ys) => inL h x ys K
      | some (.dic kvs) => ∃ k, keyOf x = some k ∧ kindOk k kvs = true ∧ K (dget k kvs).isSome
      | _ => False) := w
    split at w'
    · rename_i ys e
      obtain ⟨a, e1, rfl⟩ := py
      obtain ⟨b, vs, e2, k, ps⟩ := r.lst e
      rw [e1] at e2; cases e2
      refine seqs (es := .none) w' fun ds e => ?_
      obtain ⟨as, q⟩ := Dp.reads I (.list ds) _ uv (.lst (SqL.of k) (dat_all _ (dat_dp r 59) ys vs ds ps e)) ry
      exact ⟨as, .inl q⟩
    · rename_i kvs e
      obtain ⟨k, hk, kk, w'⟩ := w'
      obtain ⟨a, e1, rfl⟩ := py
      obtain rfl : uv = Value.ref a := ry
      obtain ⟨H1, o, I1, n, r1, g, eo⟩ := dic_any I r e e1 hk px kk
      have fin := hQ _ H1 w' n r1
      rw [← eo] at fin
      have hu1 : X.A.units + 1 < cLine := by omega
      cases neg with
      | true => exact d_notIn hu1 I1 g rx fun s3 I3 => ⟨.bl _, H1, I3, rfl, fin⟩
      | false => exact d_in hu1 I1 g rx fun s3 I3 => ⟨.bl _, H1, I3, rfl, fin⟩
    · exact w'.elim
  | _ => exact False.elim w

theorem odd2 {ρ : List Addr} {h : Hep} {H : Hp} {x y : PV} {v u : V} {b : Bool} (r : HR X.K X.mg ρ h H) (p1 : Rep X.K ρ H x v) (p2 : Rep X.K ρ H y u) (o : oddE h x y b) : Zh.Odd2 X.K v u H b := by
  rcases o with ⟨xs, z, rfl, rfl, rfl⟩ | ⟨i, z, rfl, rfl, o, rfl⟩ | ⟨xs, rfl, rfl, rfl⟩ | ⟨i, j, xs, rfl, rfl, e1, e2, rfl⟩ | ⟨i, j, rfl, rfl, e1, e2, rfl⟩
  · obtain ⟨a, vs, rfl, t, ps⟩ := p1
    obtain rfl := p2
    exact .inl ⟨a, vs, z, rfl, rfl, .inr t.sq, rfl⟩
  · obtain ⟨a, e1, rfl⟩ := p1
    obtain rfl := p2
    rcases o with ⟨xs, e⟩ | ⟨kvs, e⟩
    · obtain ⟨b, vs, e2, k, ps⟩ := r.lst e
      rw [e1] at e2; cases e2
      exact .inl ⟨a, vs, z, rfl, rfl, .inl (SqL.of k), rfl⟩
    · obtain ⟨b, e2, q⟩ := r.get e
      rw [e1] at e2; cases e2
      rcases q with ⟨ws, hd, _⟩ | ⟨ws, hd, _⟩
      · exact .inr (.inl ⟨a, z, rfl, rfl, .inl ⟨ws, hd⟩, rfl⟩)
      · exact .inr (.inl ⟨a, z, rfl, rfl, .inr ⟨ws, hd⟩, rfl⟩)
  · obtain ⟨a, vs, rfl, t, ps⟩ := p1
    obtain ⟨a2, vs2, rfl, t2, ps2⟩ := p2
    have l2 : vs2 = [] := List.length_eq_zero_iff.mp ps2.len.symm
    subst l2
    refine .inr (.inr (.inl ⟨a, a2, vs, rfl, rfl, t.sq, t2.sq, ?_⟩))
    have := ps.len
    cases xs <;> cases vs <;> simp_all
  · obtain ⟨a, f1, rfl⟩ := p1
    obtain ⟨a2, f2, rfl⟩ := p2
    obtain ⟨b1, vs, g1, k1, q1⟩ := r.lst e1
    obtain ⟨b2, us, g2, k2, q2⟩ := r.lst e2
    rw [f1] at g1; cases g1
    rw [f2] at g2; cases g2
    have l2 : us = [] := List.length_eq_zero_iff.mp q2.len.symm
    subst l2
    refine .inr (.inr (.inr (.inl ⟨a, a2, vs, rfl, rfl, SqL.of k1, SqL.of k2, ?_⟩)))
    have := q1.len
    cases xs <;> cases vs <;> simp_all
  · obtain ⟨a, f1, rfl⟩ := p1
    obtain ⟨a2, f2, rfl⟩ := p2
    have em : ∀ {i a : Nat}, ρ[i]? = some a → h[i]? = some (.dic []) → H a = some (.dK []) ∨ H a = some (.dT []) := fun {i a} f e => by
      obtain ⟨b, g, q⟩ := r.get e
      rw [f] at g; cases g
      rcases q with ⟨ws, hd, z⟩ | ⟨ws, hd, z⟩
      · cases z
        exact .inl hd
      · cases z
        exact .inr hd
    exact .inr (.inr (.inr (.inr ⟨a, a2, rfl, rfl, em f1 e1, em f2 e2, rfl⟩)))
theorem one_d2 {ρ : List Addr} {h : Hep} {H : Hp} {r a : Nat} {ks : List At} {i : Int} (hr : HR X.K X.mg ρ h H) (e : h[r]? = some (.dic [(.many ks, .int i)])) (f : ρ[r]? = some a) : H a = some (.dT [(ks, .int i)]) := by
  obtain ⟨b, g, q⟩ := hr.get e
  rw [f] at g; cases g
  rcases q with ⟨ws, hd, z⟩ | ⟨ws, hd, z⟩
  · obtain ⟨j, v, r', e1, e2, q, t⟩ := z
    cases e2
  · obtain ⟨j, v, r', e1, e2, q, t⟩ := z
    cases e2
    obtain rfl : v = .int i := q
    obtain rfl : r' = [] := t
    rw [hd, e1]
theorem one2 {ρ : List Addr} {h : Hep} {H : Hp} {x y : PV} {v u : V} {b : Bool} (r : HR X.K X.mg ρ h H) (p1 : Rep X.K ρ H x v) (p2 : Rep X.K ρ H y u) (o : oneE h x y b) : DQ.One2 v u H b := by
  obtain ⟨i, j, ks, m, n, rfl, rfl, e1, e2, rfl⟩ := o
  obtain ⟨a, f1, rfl⟩ := p1
  obtain ⟨c, f2, rfl⟩ := p2
  exact ⟨a, c, ks, m, n, rfl, rfl, one_d2 r e1 f1, one_d2 r e2 f2, rfl⟩
theorem or_cmp (hu : X.A.units + 65 < cLine) (o : CmpOp) : OpR X (compareOp o) (LR2 X (cmpO o)) := by
  intro pins s σ H x y v u Q I rx ry q
  obtain ⟨ρ, h, x', y', F, r, p1, p2, kq, w⟩ := q
  have hu64 : X.A.units + 64 < cLine := by omega
  unfold cmpO at w
  cases o with
  | Eq =>
    have w2 : eqW h x' y' fun t => F (.bl t) h := w
    clear w
    rcases w2 with ⟨d, e, e1, e2, s1, s2, w⟩ | ⟨a, b, rfl, rfl, w⟩ | ⟨b, o, w⟩
    · exact op_eqD hu64 pins s σ H _ _ v u Q I rx ry ⟨d, e, dat_dp r 60 _ _ _ p1 e1, dat_dp r 60 _ _ _ p2 e2, s1, s2, kq.bl r w⟩
    · obtain rfl := p1
      obtain rfl := p2
      exact op_eq pins s σ H _ _ v u Q I rx ry ⟨rfl, by rw [dec_str]; exact kq.bl r w⟩
    · rcases o with o | o
      · exact Zh.op_eqX (by omega) pins s σ H _ _ v u Q I rx ry ⟨b, odd2 r p1 p2 o, kq.bl r w⟩
      · exact DQ.op_eqO hu pins s σ H _ _ v u Q I rx ry ⟨b, one2 r p1 p2 o, kq.bl r w⟩
  | NotEq =>
    have w2 : eqW h x' y' fun t => F (.bl (!t)) h := w
    clear w
    rcases w2 with ⟨d, e, e1, e2, s1, s2, w⟩ | ⟨a, b, rfl, rfl, w⟩ | ⟨b, o, w⟩
    · exact op_neD hu64 pins s σ H _ _ v u Q I rx ry ⟨d, e, dat_dp r 60 _ _ _ p1 e1, dat_dp r 60 _ _ _ p2 e2, s1, s2, kq.bl r w⟩
    · obtain rfl := p1
      obtain rfl := p2
      exact op_ne pins s σ H _ _ v u Q I rx ry ⟨rfl, by rw [dec_str]; exact kq.bl r w⟩
    · rcases o with o | o
      · exact Zh.op_neX (by omega) pins s σ H _ _ v u Q I rx ry ⟨b, odd2 r p1 p2 o, kq.bl r w⟩
      · exact DQ.op_neO hu pins s σ H _ _ v u Q I rx ry ⟨b, one2 r p1 p2 o, kq.bl r w⟩
  | Lt =>
    unfold cmpW at w
    dsimp only at w
    split at w
    · obtain rfl := p1
      obtain rfl := p2
      exact op_lt pins s σ H _ _ v u Q I rx ry ⟨_, _, rfl, rfl, kq.bl r w⟩
    · obtain rfl := p1
      obtain rfl := p2
      exact op_lt_str pins s σ H _ _ v u Q I rx ry ⟨_, _, rfl, rfl, kq.bl r w⟩
    · exact w.elim
  | LtE =>
    unfold cmpW at w
    dsimp only at w
    split at w
    · obtain rfl := p1
      obtain rfl := p2
      exact op_le pins s σ H _ _ v u Q I rx ry ⟨_, _, rfl, rfl, kq.bl r w⟩
    · exact w.elim
  | Gt =>
    unfold cmpW at w
    dsimp only at w
    split at w
    · obtain rfl := p1
      obtain rfl := p2
      exact op_gt pins s σ H _ _ v u Q I rx ry ⟨_, _, rfl, rfl, kq.bl r w⟩
    · exact w.elim
  | GtE =>
    unfold cmpW at w
    dsimp only at w
    split at w
    · obtain rfl := p1
      obtain rfl := p2
      exact op_ge pins s σ H _ _ v u Q I rx ry ⟨_, _, rfl, rfl, kq.bl r w⟩
    · exact w.elim
  | Is =>
    unfold cmpW at w
    dsimp only at w
    split at w
    · obtain rfl := p2
      refine op_isN pins s σ H _ _ v u Q I rx ry ⟨rfl, ?_⟩
      cases x' with
      | non => obtain rfl := p1; exact kq.bl r w
      | bl b => obtain rfl := p1; exact kq.bl r w
      | int b => obtain rfl := p1; exact kq.bl r w
      | str b => obtain rfl := p1; exact kq.bl r w
      | tup b => obtain ⟨a, vs, rfl, _⟩ := p1; exact kq.bl r w
      | itp b => obtain ⟨a, vs, rfl, _⟩ := p1; exact kq.bl r w
      | ils b => obtain ⟨a, vs, rfl, _⟩ := p1; exact kq.bl r w
      | exc b ns xs => obtain ⟨a, C, d, gs, rfl, _⟩ := p1; exact kq.bl r w
      | fnv f c q' xs vs => obtain ⟨rfl, _⟩ := p1; exact kq.bl r w
      | lam ds k q' cl => obtain ⟨f, c', ar, bd, sc, pm, ctv, rfl, _⟩ := p1; exact kq.bl r w
      | ref b => obtain ⟨a, _, rfl⟩ := p1; exact kq.bl r w
    · split at w
      · obtain rfl := p1
        obtain rfl := p2
        exact L2.op_isBl pins s σ H _ _ v u Q I rx ry ⟨_, _, rfl, rfl, kq.bl r w⟩
      · exact w.elim
    · exact w.elim
  | IsNot =>
    unfold cmpW at w
    dsimp only at w
    split at w
    · obtain rfl := p2
      refine op_notN pins s σ H _ _ v u Q I rx ry ⟨rfl, ?_⟩
      cases x' with
      | non => obtain rfl := p1; exact kq.bl r w
      | bl b => obtain rfl := p1; exact kq.bl r w
      | int b => obtain rfl := p1; exact kq.bl r w
      | str b => obtain rfl := p1; exact kq.bl r w
      | tup b => obtain ⟨a, vs, rfl, _⟩ := p1; exact kq.bl r w
      | itp b => obtain ⟨a, vs, rfl, _⟩ := p1; exact kq.bl r w
      | ils b => obtain ⟨a, vs, rfl, _⟩ := p1; exact kq.bl r w
      | exc b ns xs => obtain ⟨a, C, d, gs, rfl, _⟩ := p1; exact kq.bl r w
      | fnv f c q' xs vs => obtain ⟨rfl, _⟩ := p1; exact kq.bl r w
      | lam ds k q' cl => obtain ⟨f, c', ar, bd, sc, pm, ctv, rfl, _⟩ := p1; exact kq.bl r w
      | ref b => obtain ⟨a, _, rfl⟩ := p1; exact kq.bl r w
    · split at w
      · obtain rfl := p1
        obtain rfl := p2
        exact L2.op_notBl pins s σ H _ _ v u Q I rx ry ⟨_, _, rfl, rfl, kq.bl r w⟩
      · exact w.elim
    · exact w.elim
  | In =>
    refine in_core (neg := false) hu I rx ry r p1 p2 (K := fun t => F (.bl t) h) w fun b H' k n r' => ?_
    exact kq (.bl b) _ _ _ _ n r' rfl k
  | NotIn =>
    refine in_core (neg := true) hu I rx ry r p1 p2 (K := fun t => F (.bl (!t)) h) w fun b H' k n r' => ?_
    exact kq (.bl (!b)) _ _ _ _ n r' rfl k

/-! ### subscripts -/
theorem at_rep {K : PySem.W.Frag} {ρ : List Addr} {H : Hp} {xs : List PV} {vs : List V} {i : Int} {j : Nat} {x : PV} (ps : Reps K ρ H xs vs) (e : ixN xs.length i = some j) (g : xs[j]? = some x) : ∃ v, atI vs i = some v ∧ Rep K ρ H x v := by
  obtain ⟨v, e1, p⟩ := ps.get g
  refine ⟨v, ?_, p⟩
  unfold atI
  rw [← ps.len, show L2.ixN xs.length i = some j from e]
  exact e1
open PySem.Spec PyProof.Rows in
/-- a dict.s subscript -/
theorem ix_dict (hu : X.A.units + 1 < cLine) : IxR X (fun x y H Q => ∃ a v, x = .ref a ∧ DGet H a y (some v) ∧ Q v H) := by
  intro value slice pins s σ H x y v u Q I rx ry h hs
  obtain ⟨a, w, rfl, g, q⟩ := h
  obtain rfl : v = Value.ref a := rx
  have hT := dict_typeIs I g
  unfold subscriptTail
  refine wpAny_bind ?_
  rw [getitemInPython_of_ne hT.not_modules]
  refine wpAny_bind (wpAny_specialOf hT PySem.F.slot_dict_getitem.lookup ?_)
  have fin : wpAny (model X.prog X.w) X.A (subscripted slice false (.ref a) u) (fun r s₃ => wpAny (model X.prog X.w) X.A (letTemporaryGo value (.ref a) r >>= fun _ => pure r) (EP X pins σ Q) X.xe s₃) X.xe s := by
    rw [hs]
    exact wpAny_operating (wpAny_mono (d_getItem hu I g ry fun w' s3 I3 rw' => ⟨w, H, I3, rw', q⟩) (fun r s₃ h₃ => wpAny_bind (wpAny_letTemporaryGo (wpAny_pure h₃))) fun _ _ x => x)
  first
    | exact wpAny_pure (wpAny_bind fin)
    | exact wpAny_bind (wpAny_pure (wpAny_bind fin))
    | exact wpAny_bind fin
theorem ix_all (hu : X.A.units + 1 < cLine) : IxR X (LR2 X itemW) := by
  intro value slice pins s σ H x y v u Q I rx ry q hs
  obtain ⟨ρ, h, x', y', F, r, p1, p2, kq, w⟩ := q
  unfold itemW at w
  split at w
  · obtain ⟨j, z, e, g, w⟩ := w
    obtain ⟨a, vs, rfl, t, ps⟩ := p1
    obtain rfl := p2
    obtain ⟨zv, e1, p⟩ := at_rep ps e g
    exact ix_tup value slice pins s σ H _ _ v u Q I rx ry ⟨a, vs, _, zv, rfl, rfl, t.sq, e1, kq.here r p w⟩ hs
  · obtain ⟨j, z, e, g, w⟩ := w
    obtain ⟨a, vs, rfl, t, ps⟩ := p1
    obtain rfl := p2
    obtain ⟨zv, e1, p⟩ := at_rep ps e g
    exact ix_list value slice pins s σ H _ _ v u Q I rx ry ⟨a, vs, _, zv, rfl, rfl, t.sq, e1, kq.here r p w⟩ hs
  · obtain ⟨j, z, e, g, w⟩ := w
    obtain ⟨a, vs, rfl, t, ps⟩ := p1
    obtain rfl := p2
    obtain ⟨zv, e1, p⟩ := at_rep ps e g
    exact ix_tup value slice pins s σ H _ _ v u Q I rx ry ⟨a, vs, _, zv, rfl, rfl, t.sq, e1, kq.here r p w⟩ hs
  · obtain ⟨j, c, l, e, g, w⟩ := w
    obtain rfl := p1
    obtain rfl := p2
    refine ix_str value slice pins s σ H _ _ v u Q I rx ry ⟨_, _, c, rfl, rfl, by rw [← big_eq]; exact l, ?_, kq.str r w⟩ hs
    unfold atI
    rw [show L2.ixN _ _ = some j from e]
    exact g
  · obtain ⟨a, e1, rfl⟩ := p1
    split at w
    · rename_i xs e
      obtain ⟨b, vs, e2, k, ps⟩ := r.lst e
      rw [e1] at e2; cases e2
      split at w
      · obtain ⟨j, z, e, g, w⟩ := w
        obtain rfl := p2
        obtain ⟨zv, e1, p⟩ := at_rep ps e g
        exact ix_list value slice pins s σ H _ _ v u Q I rx ry ⟨a, vs, _, zv, rfl, rfl, SqL.of k, e1, kq.here r p w⟩ hs
      · exact w.elim
    · rename_i kvs e
      obtain ⟨k, z, hk, g, w⟩ := w
      obtain ⟨zv, dg, p⟩ := dic_some r e e1 hk p2 g
      exact ix_dict hu value slice pins s σ H _ _ v u Q I rx ry ⟨a, zv, rfl, dg, kq.here r p w⟩ hs
    · rename_i u0 kvs e
      obtain ⟨k, z, hk, g, w⟩ := w
      obtain ⟨zv, dg, p⟩ := ldc_some r e e1 hk p2 g
      exact ix_dict hu value slice pins s σ H _ _ v u Q I rx ry ⟨a, zv, rfl, dg, kq.here r p w⟩ hs
    · exact w.elim
  · exact w.elim

/-! ### slices -/
def LRS (X : Cx) : V → Option Int → Option Int → Hp → VK → Prop := fun v lo hi H Q => ∃ (ρ : List Addr) (h : Hep) (x : PV) (F : KQ), HR X.K X.mg ρ h H ∧ Rep X.K ρ H x v ∧ KQok X ρ H F Q ∧ sliceW x lo hi h F
theorem cutL_all {α : Type} {xs : List α} {lo hi : Option Int} (e : HT.sIx xs.length 0 lo = 0 ∧ HT.sIx xs.length xs.length hi = xs.length) : cutL xs lo hi = xs := by
  unfold cutL sIx
  rw [e.1, e.2, Nat.sub_zero, List.drop_zero, List.take_length]
theorem sl_all : SlR X (LRS X) := by
  intro pins s σ H x v vl vu lo hi sl Q I rx hs pl pu q
  obtain ⟨ρ, h, x', F, r, p1, kq, w⟩ := q
  unfold sliceW at w
  split at w
  · obtain ⟨a, vs, rfl, t, ps⟩ := p1
    refine sl_tupA pins s σ H _ v vl vu lo hi sl Q I rx hs pl pu ⟨a, vs, rfl, t.sq, fun z => ?_, fun _ p hp => kq.newT r (ps.cut lo hi) w hp⟩
    rw [← ps.len] at z
    rw [cutL_all z] at w
    exact kq.here r (x := .tup _) ⟨a, vs, rfl, t, ps⟩ w
  · obtain ⟨a, vs, rfl, t, ps⟩ := p1
    exact sl_list pins s σ H _ v vl vu lo hi sl Q I rx hs pl pu ⟨a, vs, rfl, t.sq, fun p hp => kq.newL r (ps.cut lo hi) w hp⟩
  · obtain ⟨xs, e, w⟩ := getL_some w
    obtain ⟨a, e1, rfl⟩ := p1
    obtain ⟨b, vs, e2, k, ps⟩ := r.lst e
    rw [e1] at e2; cases e2
    exact sl_list pins s σ H _ v vl vu lo hi sl Q I rx hs pl pu ⟨a, vs, rfl, SqL.of k, fun p hp => kq.newL r (ps.cut lo hi) w hp⟩
  · obtain rfl := p1
    exact sl_str pins s σ H _ v vl vu lo hi sl Q I rx hs pl pu ⟨_, rfl, by rw [← big_eq]; exact w.1, kq.str r w.2⟩
  · obtain ⟨a, vs, rfl, t, ps⟩ := p1
    refine Zh.sl_tupW pins s σ H _ v vl vu lo hi sl Q I rx hs pl pu ⟨a, vs, rfl, t.sq, fun z => ?_, fun z p o d hp => ?_⟩
    · rw [← ps.len] at z
      rw [cutL_all z] at w
      exact kq.here r (x := .itp _) ⟨a, vs, rfl, t, ps⟩ w
    · exact kq.newW r (ps.cut lo hi) d w hp
  · exact w.elim

/-! ### stores -/
theorem set_all (hu : X.A.units + 1 < cLine) {pins : List (Addr × Obj)} {s : Shared} {σ : St} {H : Hp} {o i v : V} {ov iv u : Value} {Q : Hp → Prop} (I : Inv X pins σ H s) (ro : RelV o ov) (ri : RelV i iv) (rv : RelV v u)
    {ρ : List Addr} {h : Hep} {x y z : PV} {F : Hep → Prop} (r : HR X.K X.mg ρ h H) (p1 : Rep X.K ρ H x o) (p2 : Rep X.K ρ H y i) (p3 : Rep X.K ρ H z v) (w : storeW x y z h F)
    (k : ∀ (h' : Hep) (H' : Hp), Nx ρ H ρ H' → HR X.K X.mg ρ h' H' → F h' → Q H') : wpAny (model X.prog X.w) X.A (setItem ov iv u) (fun _ s' => ∃ H', Inv X pins σ H' s' ∧ Q H') X.xe s := by
  unfold storeW at w
  split at w
  · obtain ⟨a, e1, rfl⟩ := p1
    split at w
    · rename_i xs e
      obtain ⟨b, vs, e2, kk, ps⟩ := r.lst e
      rw [e1] at e2; cases e2
      split at w
      · obtain ⟨j, ej, w⟩ := w
        obtain rfl := p2
        have n : Nx ρ H ρ (upd H a (.lst (vs.set j v))) := ⟨⟨[], by simp⟩, fun b o q z => by rw [upd_ne (fun y => z (by rw [y]; exact List.mem_of_getElem? e1) : b ≠ a)]; exact q, fun b q z => absurd q z⟩
        have wr := r.write e1 (u := .lst (vs.set j v)) (o := .lst (xs.set j z)) ⟨_, upd_same, (ps.set j p3).nx r n⟩
        exact set_list pins s σ H _ _ v ov iv u _ I ro ri rv ⟨a, vs, _, j, rfl, rfl, kk, by rw [← ps.len]; exact ej, k _ _ wr.2 wr.1 w⟩
      · exact w.elim
    · rename_i kvs e
      obtain ⟨ky, hk, hkk, hl, w⟩ := w
      obtain rfl : ov = Value.ref a := ro
      obtain ⟨H1, H2, I1, dp, n, r2⟩ := dic_put I r e e1 hk p2 p3 hkk hl
      exact d_setItem hu I1 dp ri rv fun s4 I4 => ⟨H2, I4, k _ _ n r2 w⟩
    · exact w.elim
  · exact w.elim
end
end Z

/-! ZsE: expressions in the hand layer's judgements, construct by construct. -/
namespace Z
open PySem PyProof.Rows L2

section
variable {X : Cx} {W : WX} {e a b c : Expr} {es : List Expr} {pos : Pos}

/-! ### argument lists -/
theorem za_nil {Γ : List Spec} : PA X [] (LA X W (wEs Γ [])) := pa_imp pa_nil fun σ H Q ⟨ρ, σz, h, F, E, s, kq, kx, w⟩ => by
  unfold wEs at w
  exact kq [] h ρ H [] Nx.refl s.hr rfl w
theorem za_cons {Γ : List Spec} {x : Ex} {xs : List Ex} (ha : PE X e (LE X W (wE Γ x))) (hr : PA X es (LA X W (wEs Γ xs))) (hs : starEach (e :: es) X.env = (false, eval e X.env) :: starEach es X.env) : PA X (e :: es) (LA X W (wEs Γ (x :: xs))) := by
  refine pa_imp (pa_cons ha hr hs) fun σ H Q ⟨ρ, σz, h, F, E, s, kq, kx, w⟩ => ?_
  unfold wEs at w
  refine ⟨ρ, σz, h, _, E, s, fun y h1 ρ1 H1 v n1 r1 p1 w1 => ?_, kx, w⟩
  refine ⟨ρ1, σz, h1, _, E, s.nx n1 r1, fun ys h2 ρ2 H2 vs n2 r2 ps w2 => ?_, kx.nx n1, w1⟩
  exact kq (y :: ys) h2 ρ2 H2 (v :: vs) (n1.trans n2) r2 ⟨v, vs, rfl, p1.nx r1 n2, ps⟩ w2

/-! ### displays -/
theorem ze_tup {Γ : List Spec} {xs : List Ex} {k : Nat} (ha : PA X es (LA X W (wEs Γ xs))) : PE X (.Tuple es k pos) (LE X W (wE Γ (.tup xs))) := by
  refine pe_imp (pe_tup ha) fun σ H Q ⟨ρ, σz, h, F, E, s, kq, kx, w⟩ => ?_
  unfold wE at w
  refine ⟨ρ, σz, h, _, E, s, fun ys h1 ρ1 H1 vs n1 r1 ps w1 => ?_, kx, w⟩
  exact ⟨by rw [← big_eq, ← ps.len]; exact w1.1, fun p hp => (kq.nx n1).newT r1 ps w1.2 hp⟩
theorem ze_xtp {Γ : List Spec} {xs : List Ex} {k : Nat} (ha : PA X es (LA X W (wEs Γ xs))) : PE X (.Tuple es k pos) (LE X W (wE Γ (.xtp xs))) := by
  refine pe_imp (Zh.pe_tupW ha) fun σ H Q ⟨ρ, σz, h, F, E, s, kq, kx, w⟩ => ?_
  unfold wE at w
  refine ⟨ρ, σz, h, _, E, s, fun ys h1 ρ1 H1 vs n1 r1 ps w1 => ?_, kx, w⟩
  exact ⟨by rw [← big_eq, ← ps.len]; exact w1.1, fun p o d hp => (kq.nx n1).newW r1 ps d w1.2 hp⟩
theorem ze_lst {Γ : List Spec} {xs : List Ex} (ha : PA X es (LA X W (wEs Γ xs))) : PE X (.List es pos) (LE X W (wE Γ (.lst xs))) := by
  refine pe_imp (pe_lst ha) fun σ H Q ⟨ρ, σz, h, F, E, s, kq, kx, w⟩ => ?_
  unfold wE at w
  refine ⟨ρ, σz, h, _, E, s, fun ys h1 ρ1 H1 vs n1 r1 ps w1 => ?_, kx, w⟩
  exact ⟨by rw [← big_eq, ← ps.len]; exact w1.1, fun p hp => (kq.nx n1).newL r1 ps w1.2 hp⟩
theorem ze_dct {Γ : List Spec} : PE X (.Dict [] [] pos) (LE X W (wE Γ .dct)) := by
  refine pe_imp pe_dnewK fun σ H Q ⟨ρ, σz, h, F, E, s, kq, kx, w⟩ => fun p hp => ?_
  unfold wE at w
  obtain ⟨r1, n1⟩ := s.hr.alloc hp (u := .dK []) (o := .dic []) (.inl ⟨[], upd_same, rfl⟩)
  exact kq (.ref h.length) _ _ _ _ n1 r1 ⟨p, by rw [← s.hr.len]; simp, rfl⟩ w

/-! ### operators -/
theorem ze_bin {Γ : List Spec} {x y : Ex} {o : Operator} (ha : PE X a (LE X W (wE Γ x))) (hb : PE X b (LE X W (wE Γ y))) : PE X (.BinOp a o b pos) (LE X W (wE Γ (.bin o x y))) := by
  refine pe_imp (pe_op (or_bin o) ha hb) fun σ H Q q => ?_
  have q' : LE X W (fun σz h F E => wE Γ x σz h (fun x h1 => wE Γ y σz h1 (fun y h2 => binW o x y h2 F) E) E) σ H Q := by
    obtain ⟨ρ, σz, h, F, E, s, kq, kx, w⟩ := q
    unfold wE at w
    exact ⟨ρ, σz, h, F, E, s, kq, kx, w⟩
  exact le_two (fun ρ h H x y v u F Q r p1 p2 kq w => ⟨ρ, h, x, y, F, r, p1, p2, kq, w⟩) σ H Q q'
theorem ze_neg {Γ : List Spec} {x : Ex} (ha : PE X a (LE X W (wE Γ x))) : PE X (.UnaryOp .USub a pos) (LE X W (wE Γ (.neg x))) := by
  refine pe_imp (pe_un un_neg ha) fun σ H Q ⟨ρ, σz, h, F, E, s, kq, kx, w⟩ => ?_
  unfold wE at w
  refine ⟨ρ, σz, h, _, E, s, fun y h1 ρ1 H1 v n1 r1 p1 w1 => ?_, kx, w⟩
  split at w1
  · obtain rfl := p1
    exact ⟨_, rfl, (kq.nx n1).int r1 w1⟩
  · exact w1.elim
theorem ze_not {Γ : List Spec} {x : Ex} (ha : PE X a (LE X W (wE Γ x))) : PE X (.UnaryOp .Not a pos) (LE X W (wE Γ (.not x))) := by
  refine pe_imp (pe_notT ha) fun σ H Q ⟨ρ, σz, h, F, E, s, kq, kx, w⟩ => ?_
  unfold wE at w
  refine ⟨ρ, σz, h, _, E, s, fun y h1 ρ1 H1 v n1 r1 p1 w1 => ?_, kx, w⟩
  obtain ⟨k, t, w2⟩ := tru_of r1 p1 w1
  exact ⟨k, t, (kq.nx n1).bl r1 w2⟩
theorem ze_and {Γ : List Spec} {x y : Ex} {r : List Expr} (ha : PE X a (LE X W (wE Γ x))) (hb : PE X (.BoolOp .And (b :: r) pos) (LE X W (wE Γ y))) : PE X (.BoolOp .And (a :: b :: r) pos) (LE X W (wE Γ (.and x y))) := by
  refine pe_imp (pe_andT ha hb) fun σ H Q ⟨ρ, σz, h, F, E, s, kq, kx, w⟩ => ?_
  unfold wE at w
  refine ⟨ρ, σz, h, _, E, s, fun y h1 ρ1 H1 v n1 r1 p1 w1 => ?_, kx, w⟩
  obtain ⟨k, t, w2⟩ := tru_of r1 p1 w1
  refine ⟨k, t, ?_⟩
  cases k with
  | true => exact iteT ⟨ρ1, σz, h1, F, E, s.nx n1 r1, kq.nx n1, kx.nx n1, w2⟩
  | false => exact iteF ((kq.nx n1).here r1 p1 w2)
theorem ze_or {Γ : List Spec} {x y : Ex} {r : List Expr} (ha : PE X a (LE X W (wE Γ x))) (hb : PE X (.BoolOp .Or (b :: r) pos) (LE X W (wE Γ y))) : PE X (.BoolOp .Or (a :: b :: r) pos) (LE X W (wE Γ (.or x y))) := by
  refine pe_imp (pe_orT ha hb) fun σ H Q ⟨ρ, σz, h, F, E, s, kq, kx, w⟩ => ?_
  unfold wE at w
  refine ⟨ρ, σz, h, _, E, s, fun y h1 ρ1 H1 v n1 r1 p1 w1 => ?_, kx, w⟩
  obtain ⟨k, t, w2⟩ := tru_of r1 p1 w1
  refine ⟨k, t, ?_⟩
  cases k with
  | true => exact iteT ((kq.nx n1).here r1 p1 w2)
  | false => exact iteF ⟨ρ1, σz, h1, F, E, s.nx n1 r1, kq.nx n1, kx.nx n1, w2⟩
theorem ze_one {Γ : List Spec} {x : Ex} {op : BoolOp} (ha : PE X a (LE X W (wE Γ x))) : PE X (.BoolOp op [a] pos) (LE X W (wE Γ x)) := pe_one ha
theorem ze_ife {Γ : List Spec} {x y z : Ex} (hc : PT X c (LT X W (wT Γ x))) (ha : PE X a (LE X W (wE Γ y))) (hb : PE X b (LE X W (wE Γ z))) : PE X (.IfExp c a b pos) (LE X W (wE Γ (.ife x y z))) := by
  refine pe_imp (pe_ifExp hc ha hb) fun σ H Q ⟨ρ, σz, h, F, E, s, kq, kx, w⟩ => ?_
  unfold wE at w
  refine ⟨ρ, σz, h, fun t h1 => if t = true then wE Γ y σz h1 F E else wE Γ z σz h1 F E, E, s, fun t h1 ρ1 H1 n1 r1 w1 => ?_, kx, w⟩
  cases t with
  | true => exact iteT ⟨ρ1, σz, h1, F, E, s.nx n1 r1, kq.nx n1, kx.nx n1, w1⟩
  | false => exact iteF ⟨ρ1, σz, h1, F, E, s.nx n1 r1, kq.nx n1, kx.nx n1, w1⟩
theorem ze_cmp {Γ : List Spec} {x y : Ex} {o : CmpOp} (hu : X.A.units + 65 < cLine) (ha : PE X a (LE X W (wE Γ x))) (hb : PE X b (LE X W (wE Γ y))) (hm : behindInMarks o b = false) : PE X (.Compare a [o] [b] pos) (LE X W (wE Γ (.cmp o x y))) := by
  refine pe_imp (pe_cmpR (or_cmp hu o) ha hb hm) fun σ H Q q => ?_
  have q' : LE X W (fun σz h F E => wE Γ x σz h (fun x h1 => wE Γ y σz h1 (fun y h2 => cmpO o x y h2 F) E) E) σ H Q := by
    obtain ⟨ρ, σz, h, F, E, s, kq, kx, w⟩ := q
    unfold wE at w
    exact ⟨ρ, σz, h, F, E, s, kq, kx, w⟩
  exact le_two (fun ρ h H x y v u F Q r p1 p2 kq w => ⟨ρ, h, x, y, F, r, p1, p2, kq, w⟩) σ H Q q'

theorem le_chn {wa wb wc : WE} {o o' : CmpOp} (σ : L2.St) (H : Hp) (Q : VK)
    (q : LE X W (fun σz h F E => wa σz h (fun x h1 => wb σz h1 (fun y h2 => cmpW o x y h2 fun t => if t = true then wc σz h2 (fun z h3 => cmpW o' y z h3 fun u => F (.bl u) h3) E else F (.bl false) h2) E) E) σ H Q) :
    tChain (LR2 X (cmpO o)) (LR2 X (cmpO o')) (LE X W wa) (LE X W wb) (LE X W wc) σ H Q := by
  obtain ⟨ρ, σz, h, F, E, s, kq, kx, w⟩ := q
  refine ⟨ρ, σz, h, _, E, s, fun x h1 ρ1 H1 v n1 r1 p1 w1 => ?_, kx, w⟩
  refine ⟨ρ1, σz, h1, _, E, s.nx n1 r1, fun y h2 ρ2 H2 u n2 r2 p2 w2 => ?_, kx.nx n1, w1⟩
  refine ⟨ρ2, h2, x, y, fun z h3 => match z with | .bl t => if t = true then wc σz h3 (fun z h4 => cmpW o' y z h4 fun u => F (.bl u) h4) E else F (.bl false) h3 | _ => False, r2, p1.nx r1 n2, p2, fun z h3 ρ3 H3 zv n3 r3 p3 w3 => ?_, w2⟩
  cases z with
  | bl t =>
    obtain rfl := p3
    refine ⟨t, rfl, ?_⟩
    have n13 := n1.trans (n2.trans n3)
    cases t with
    | true =>
      refine iteT ⟨ρ3, σz, h3, _, E, (s.nx n1 r1).nx (n2.trans n3) r3, fun z h4 ρ4 H4 zv n4 r4 p4 w4 => ?_, kx.nx n13, w3⟩
      exact ⟨ρ4, h4, y, z, F, r4, (p2.nx r2 n3).nx r3 n4, p4, kq.nx (n13.trans n4), w4⟩
    | false => exact iteF ((kq.nx n13).bl r3 w3)
  | _ => exact w3.elim
theorem ze_chn {Γ : List Spec} {x y z : Ex} {o o' : CmpOp} (hu : X.A.units + 65 < cLine) (ha : PE X a (LE X W (wE Γ x))) (hb : PE X b (LE X W (wE Γ y))) (hc : PE X c (LE X W (wE Γ z))) (hm : lastMarks [o, o'] [b, c] = false) : PE X (.Compare a [o, o'] [b, c] pos) (LE X W (wE Γ (.chn o o' x y z))) := by
  refine pe_imp (pe_chain (or_cmp hu o) (or_cmp hu o') ha hb hc hm) fun σ H Q q => ?_
  refine le_chn σ H Q ?_
  obtain ⟨ρ, σz, h, F, E, s, kq, kx, w⟩ := q
  unfold wE at w
  exact ⟨ρ, σz, h, F, E, s, kq, kx, w⟩

/-! ### tests -/
/-- a value's truth, where the model asks no other way -/
theorem zt_of {Γ : List Spec} {x : Ex} (ha : PE X e (LE X W (wE Γ x))) (he : ∀ whole, isTrue e X.env whole = (do let v ← whole; standAt e.pos; holding [v] (truthy v))) : PT X e (LT X W (wT Γ x)) := by
  refine pt_imp (pt_truth ha he) fun σ H Q ⟨ρ, σz, h, F, E, s, kq, kx, w⟩ => ?_
  refine ⟨ρ, σz, h, _, E, s, fun y h1 ρ1 H1 v n1 r1 p1 w1 => ?_, kx, w⟩
  obtain ⟨k, t, w2⟩ := tru_of r1 p1 w1
  exact ⟨k, t, kq k h1 ρ1 H1 n1 r1 w2⟩
theorem zt_cmp {Γ : List Spec} {x y : Ex} {o : CmpOp} (hu : X.A.units + 65 < cLine) (ha : PE X a (LE X W (wE Γ x))) (hb : PE X b (LE X W (wE Γ y))) (hm : behindInMarks o b = false) : PT X (.Compare a [o] [b] pos) (LT X W (wT Γ (.cmp o x y))) := by
  refine pt_imp (pt_cmpR (or_cmp hu o) ha hb hm) fun σ H Q ⟨ρ, σz, h, F, E, s, kq, kx, w⟩ => ?_
  have q' : LE X W (fun σz h F E => wE Γ x σz h (fun x h1 => wE Γ y σz h1 (fun y h2 => cmpO o x y h2 F) E) E) σ H (fun z H' => ∃ k, z = .bl k ∧ Q k H') := by
    unfold wT wE at w
    refine ⟨ρ, σz, h, fun z h1 => match z with | .bl b => F b h1 | _ => False, E, s, fun z h1 ρ1 H1 v n1 r1 p1 w1 => ?_, kx, w⟩
    cases z with
    | bl b => obtain rfl := p1; exact ⟨b, rfl, kq b h1 ρ1 H1 n1 r1 w1⟩
    | _ => exact w1.elim
  exact le_two (fun ρ h H x y v u F Q r p1 p2 kq w => ⟨ρ, h, x, y, F, r, p1, p2, kq, w⟩) σ H _ q'
theorem zt_chn {Γ : List Spec} {x y z : Ex} {o o' : CmpOp} (hu : X.A.units + 65 < cLine) (ha : PE X a (LE X W (wE Γ x))) (hb : PE X b (LE X W (wE Γ y))) (hc : PE X c (LE X W (wE Γ z))) (hm : lastMarks [o, o'] [b, c] = false) : PT X (.Compare a [o, o'] [b, c] pos) (LT X W (wT Γ (.chn o o' x y z))) := by
  refine pt_imp (pt_chain (or_cmp hu o) (or_cmp hu o') ha hb hc hm) fun σ H Q ⟨ρ, σz, h, F, E, s, kq, kx, w⟩ => ?_
  unfold wT wE at w
  refine le_chn σ H _ ⟨ρ, σz, h, fun z h1 => match z with | .bl b => F b h1 | _ => False, E, s, fun z h1 ρ1 H1 v n1 r1 p1 w1 => ?_, kx, w⟩
  cases z with
  | bl b => obtain rfl := p1; exact ⟨b, rfl, kq b h1 ρ1 H1 n1 r1 w1⟩
  | _ => exact w1.elim
theorem zt_not {Γ : List Spec} {x : Ex} (ha : PT X a (LT X W (wT Γ x))) : PT X (.UnaryOp .Not a pos) (LT X W (wT Γ (.not x))) := by
  refine pt_imp (pt_not ha) fun σ H Q ⟨ρ, σz, h, F, E, s, kq, kx, w⟩ => ?_
  unfold wT wE at w
  exact ⟨ρ, σz, h, fun b h1 => F (!b) h1, E, s, fun b h1 ρ1 H1 n1 r1 w1 => kq (!b) h1 ρ1 H1 n1 r1 w1, kx, w⟩
/-- the truth of a value, where it has one -/
def truV (h : Hep) : PV → Option Bool
  | .non => some false
  | .bl b => some b
  | .int i => some (i != 0)
  | .str s => if s.length ≤ big then some ((s.length : Int) != 0) else none
  | .tup xs => some !xs.isEmpty
  | .ils xs => some !xs.isEmpty
  | .itp xs => some !xs.isEmpty
  | .ref r => match h[r]? with | some (.lst xs) => some !xs.isEmpty | _ => none
  | .exc _ _ _ => none
  | .fnv _ _ _ _ _ => none
  | .lam _ _ _ _ => none
theorem truW_iff {h : Hep} {x : PV} {K : Bool → Prop} : truW h x K ↔ ∃ b, truV h x = some b ∧ K b := by
  cases x with
  | str s =>
    show (s.length ≤ big ∧ K ((s.length : Int) != 0)) ↔ ∃ b, (if s.length ≤ big then some ((s.length : Int) != 0) else none) = some b ∧ K b
    by_cases z : s.length ≤ big
    · rw [if_pos z]
      exact ⟨fun q => ⟨_, rfl, q.2⟩, fun ⟨b, e, q⟩ => ⟨z, by cases e; exact q⟩⟩
    · rw [if_neg z]
      exact ⟨fun q => absurd q.1 z, fun ⟨b, e, q⟩ => by cases e⟩
  | ref i =>
    show getL h i (fun xs => K (!xs.isEmpty)) ↔ ∃ b, (match h[i]? with | some (.lst xs) => some !xs.isEmpty | _ => none) = some b ∧ K b
    unfold getL
    cases g : h[i]? with
    | none => exact ⟨fun q => False.elim q, fun ⟨b, e, q⟩ => by cases e⟩
    | some o =>
      cases o with
      | lst xs => exact ⟨fun q => ⟨_, rfl, q⟩, fun ⟨b, e, q⟩ => by cases e; exact q⟩
      | _ => exact ⟨fun q => False.elim q, fun ⟨b, e, q⟩ => by cases e⟩
  | exc c ns xs => exact ⟨fun q => False.elim q, fun ⟨b, e, q⟩ => by cases e⟩
  | fnv f c q' xs vs => exact ⟨fun q => False.elim q, fun ⟨b, e, q⟩ => by cases e⟩
  | lam ds k q' cl => exact ⟨fun q => False.elim q, fun ⟨b, e, q⟩ => by cases e⟩
  | _ => exact ⟨fun q => ⟨_, rfl, q⟩, fun ⟨b, e, q⟩ => by cases e; exact q⟩
/-- what a test asks of a conjunction -/
theorem lt_and {Γ : List Spec} {x y : Ex} (σ : L2.St) (H : Hp) (Q : Bool → Hp → Prop) (q : LT X W (wT Γ (.and x y)) σ H Q) : tAnd (LT X W (wT Γ x)) (LT X W (wT Γ y)) σ H Q := by
  obtain ⟨ρ, σz, h, F, E, s, kq, kx, w⟩ := q
  unfold wT wE at w
  refine ⟨ρ, σz, h, fun t h1 => if t = true then wT Γ y σz h1 F E else F false h1, E, s, fun t h1 ρ1 H1 n1 r1 w1 => ?_, kx, ?_⟩
  · cases t with
    | true => exact iteT ⟨ρ1, σz, h1, F, E, s.nx n1 r1, fun b h2 ρ2 H2 n2 r2 w2 => kq b h2 ρ2 H2 (n1.trans n2) r2 w2, kx.nx n1, w1⟩
    | false => exact iteF (kq false h1 ρ1 H1 n1 r1 w1)
  · unfold wT
    refine cast (congrArg (fun z => wE Γ x σz h z E) ?_) w
    funext v h1
    refine propext ⟨fun q => ?_, fun q => ?_⟩
    · obtain ⟨b, e, q⟩ := truW_iff.mp q
      refine truW_iff.mpr ⟨b, e, ?_⟩
      cases b with
      | true => exact q
      | false =>
        rw [if_neg Bool.false_ne_true] at q
        obtain ⟨b2, e2, q2⟩ := truW_iff.mp (show truW h1 v (fun b => F b h1) from q)
        rw [e] at e2
        cases e2
        exact iteF q2
    · obtain ⟨b, e, q⟩ := truW_iff.mp q
      refine truW_iff.mpr ⟨b, e, ?_⟩
      cases b with
      | true => exact q
      | false =>
        rw [if_neg Bool.false_ne_true] at q
        exact iteF (truW_iff.mpr ⟨false, e, q⟩)
theorem lt_or {Γ : List Spec} {x y : Ex} (σ : L2.St) (H : Hp) (Q : Bool → Hp → Prop) (q : LT X W (wT Γ (.or x y)) σ H Q) : tOr (LT X W (wT Γ x)) (LT X W (wT Γ y)) σ H Q := by
  obtain ⟨ρ, σz, h, F, E, s, kq, kx, w⟩ := q
  unfold wT wE at w
  refine ⟨ρ, σz, h, fun t h1 => if t = true then F true h1 else wT Γ y σz h1 F E, E, s, fun t h1 ρ1 H1 n1 r1 w1 => ?_, kx, ?_⟩
  · cases t with
    | false => exact iteF ⟨ρ1, σz, h1, F, E, s.nx n1 r1, fun b h2 ρ2 H2 n2 r2 w2 => kq b h2 ρ2 H2 (n1.trans n2) r2 w2, kx.nx n1, w1⟩
    | true => exact iteT (kq true h1 ρ1 H1 n1 r1 w1)
  · unfold wT
    refine cast (congrArg (fun z => wE Γ x σz h z E) ?_) w
    funext v h1
    refine propext ⟨fun q => ?_, fun q => ?_⟩
    · obtain ⟨b, e, q⟩ := truW_iff.mp q
      refine truW_iff.mpr ⟨b, e, ?_⟩
      cases b with
      | false => exact q
      | true =>
        rw [if_pos rfl] at q
        obtain ⟨b2, e2, q2⟩ := truW_iff.mp (show truW h1 v (fun b => F b h1) from q)
        rw [e] at e2
        cases e2
        exact iteT q2
    · obtain ⟨b, e, q⟩ := truW_iff.mp q
      refine truW_iff.mpr ⟨b, e, ?_⟩
      cases b with
      | false => exact q
      | true =>
        rw [if_pos rfl] at q
        exact iteT (truW_iff.mpr ⟨true, e, q⟩)
theorem zw_and {Γ : List Spec} {x y : Ex} {r : List Expr} (ha : PT X a (LT X W (wT Γ x))) (hb : PW X (.BoolOp .And (b :: r) pos) (LT X W (wT Γ y))) : PW X (.BoolOp .And (a :: b :: r) pos) (LT X W (wT Γ (.and x y))) := pw_imp (pw_and ha hb) lt_and
theorem zw_or {Γ : List Spec} {x y : Ex} {r : List Expr} (ha : PT X a (LT X W (wT Γ x))) (hb : PW X (.BoolOp .Or (b :: r) pos) (LT X W (wT Γ y))) : PW X (.BoolOp .Or (a :: b :: r) pos) (LT X W (wT Γ (.or x y))) := pw_imp (pw_or ha hb) lt_or
theorem zt_ife {Γ : List Spec} {x y z : Ex} (hc : PT X c (LT X W (wT Γ x))) (ha : PT X a (LT X W (wT Γ y))) (hb : PT X b (LT X W (wT Γ z))) : PT X (.IfExp c a b pos) (LT X W (wT Γ (.ife x y z))) := by
  refine ⟨fun pins s σ H Q I ⟨ρ, σz, h, F, E, sr, kq, kx, w⟩ => ?_⟩
  unfold wT wE at w
  refine isTrue_IfExp (thn (hc.run pins s σ H (fun t H1 => if t = true then LT X W (wT Γ y) σ H1 Q else LT X W (wT Γ z) σ H1 Q) I ⟨ρ, σz, h, fun t h1 => if t = true then wT Γ y σz h1 F E else wT Γ z σz h1 F E, E, sr, fun t h1 ρ1 H1 n1 r1 w1 => ?_, kx, w⟩) fun t s1 ⟨H1, I1, q1⟩ => ?_)
  · cases t with
    | true => exact iteT ⟨ρ1, σz, h1, F, E, sr.nx n1 r1, fun b h2 ρ2 H2 n2 r2 w2 => kq b h2 ρ2 H2 (n1.trans n2) r2 w2, kx.nx n1, w1⟩
    | false => exact iteF ⟨ρ1, σz, h1, F, E, sr.nx n1 r1, fun b h2 ρ2 H2 n2 r2 w2 => kq b h2 ρ2 H2 (n1.trans n2) r2 w2, kx.nx n1, w1⟩
  · cases t with
    | true => exact ha.run pins s1 σ H1 Q I1 q1
    | false => exact hb.run pins s1 σ H1 Q I1 q1
end
end Z

/-! ZsF: subscripts, built-ins and methods by values, calls of defs. -/
namespace Z
open PySem PyProof.Rows L2

section
variable {X : Cx} {W : WX} {e a b c : Expr} {es : List Expr} {pos : Pos}

/-! ### subscripts, slices -/
theorem ze_idx {Γ : List Spec} {x y : Ex} (hu : X.A.units + 1 < cLine) (ha : PE X a (LE X W (wE Γ x))) (hb : PE X b (LE X W (wE Γ y))) (hs : PlainIx b) : PE X (.Subscript a b pos) (LE X W (wE Γ (.idx x y))) := by
  refine pe_imp (pe_ix (ix_all hu) ha hb hs) fun σ H Q q => ?_
  have q' : LE X W (fun σz h F E => wE Γ x σz h (fun x h1 => wE Γ y σz h1 (fun y h2 => itemW x y h2 F) E) E) σ H Q := by
    obtain ⟨ρ, σz, h, F, E, s, kq, kx, w⟩ := q
    unfold wE at w
    exact ⟨ρ, σz, h, F, E, s, kq, kx, w⟩
  exact le_two (fun ρ h H x y v u F Q r p1 p2 kq w => ⟨ρ, h, x, y, F, r, p1, p2, kq, w⟩) σ H Q q'
theorem zo_none {Γ : List Spec} : PO X none (LO X W (wO Γ none)) := ⟨fun pins s σ H Q I ⟨ρ, σz, h, F, E, sr, kq, kx, w⟩ => po_none.run pins s σ H Q I (by
  unfold wO at w
  exact kq none h ρ H Nx.refl sr.hr w)⟩
theorem zo_some {Γ : List Spec} {x : Ex} (ha : PE X a (LE X W (wE Γ x))) : PO X (some a) (LO X W (wO Γ (some x))) := ⟨fun pins s σ H Q I ⟨ρ, σz, h, F, E, sr, kq, kx, w⟩ => (po_some ha).run pins s σ H Q I (by
  unfold wO at w
  refine ⟨ρ, σz, h, _, E, sr, fun y h1 ρ1 H1 v n1 r1 p1 w1 => ?_, kx, w⟩
  split at w1
  · obtain rfl := p1
    exact ⟨_, rfl, kq _ h1 ρ1 H1 n1 r1 w1⟩
  · exact w1.elim)⟩
theorem ze_slc {Γ : List Spec} {x : Ex} {l u : Option Ex} {lo hi : Option Expr} {p2 : Pos} (ha : PE X a (LE X W (wE Γ x))) (hl : PO X lo (LO X W (wO Γ l))) (hu : PO X hi (LO X W (wO Γ u))) : PE X (.Subscript a (.Slice lo hi none p2) pos) (LE X W (wE Γ (.slc x l u))) := by
  refine pe_imp (pe_slice sl_all ha hl hu) fun σ H Q ⟨ρ, σz, h, F, E, s, kq, kx, w⟩ => ?_
  unfold wE at w
  refine ⟨ρ, σz, h, _, E, s, fun y h1 ρ1 H1 v n1 r1 p1 w1 => ?_, kx, w⟩
  refine ⟨ρ1, σz, h1, _, E, s.nx n1 r1, fun o h2 ρ2 H2 n2 r2 w2 => ?_, kx.nx n1, w1⟩
  refine ⟨ρ2, σz, h2, _, E, (s.nx n1 r1).nx n2 r2, fun o' h3 ρ3 H3 n3 r3 w3 => ?_, (kx.nx n1).nx n2, w2⟩
  exact ⟨ρ3, h3, y, F, r3, (p1.nx r1 n2).nx r2 n3, kq.nx (n1.trans (n2.trans n3)), w3⟩

/-! ### built-ins by values -/
def LRC (X : Cx) (op : List PV → Hep → KQ → Prop) : List V → Hp → VK → Prop := fun vs H Q => ∃ (ρ : List Addr) (h : Hep) (xs : List PV) (F : KQ), HR X.K X.mg ρ h H ∧ Reps X.K ρ H xs vs ∧ KQok X ρ H F Q ∧ op xs h F
theorem callr_imp {f : Value} {r r' : List V → Hp → VK → Prop} (h : CallR X f r) (k : ∀ vs H Q, r' vs H Q → r vs H Q) : CallR X f r' := fun pins s σ H xs us Q I rs q => h pins s σ H xs us Q I rs (k _ _ _ q)
theorem reps1 {ρ : List Addr} {H : Hp} {x : PV} {vs : List V} (q : Reps X.K ρ H [x] vs) : ∃ v, vs = [v] ∧ Rep X.K ρ H x v := by
  obtain ⟨v, r, rfl, p, t⟩ := q
  cases t
  exact ⟨v, rfl, p⟩
theorem reps2 {ρ : List Addr} {H : Hp} {x y : PV} {vs : List V} (q : Reps X.K ρ H [x, y] vs) : ∃ v u, vs = [v, u] ∧ Rep X.K ρ H x v ∧ Rep X.K ρ H y u := by
  obtain ⟨v, r, rfl, p, t⟩ := q
  obtain ⟨u, rfl, p2⟩ := reps1 t
  exact ⟨v, u, rfl, p, p2⟩
theorem listW_some {ρ : List Addr} {h : Hep} {H : Hp} {x : PV} {v : V} {F : List PV → Prop} (r : HR X.K X.mg ρ h H) (p : Rep X.K ρ H x v) (w : listW h x F) : ∃ a vs xs, v = .ref a ∧ SqL X.K H a vs ∧ Reps X.K ρ H xs vs ∧ F xs := by
  unfold listW at w
  split at w
  · obtain ⟨xs, e, w⟩ := getL_some w
    obtain ⟨a, e1, rfl⟩ := p
    obtain ⟨b, vs, e2, k, ps⟩ := r.lst e
    rw [e1] at e2; cases e2
    exact ⟨a, vs, xs, rfl, SqL.of k, ps, w⟩
  · obtain ⟨a, vs, rfl, t, ps⟩ := p
    exact ⟨a, vs, _, rfl, t.sq, ps, w⟩
  · exact w.elim
theorem seqW_some {ρ : List Addr} {h : Hep} {H : Hp} {x : PV} {v : V} {F : List PV → Prop} (r : HR X.K X.mg ρ h H) (p : Rep X.K ρ H x v) (w : seqW h x F) : ∃ a vs xs, v = .ref a ∧ (SqL X.K H a vs ∨ SqT X.K H a vs) ∧ Reps X.K ρ H xs vs ∧ F xs := by
  unfold seqW at w
  split at w
  · obtain ⟨xs, e, w⟩ := getL_some w
    obtain ⟨a, e1, rfl⟩ := p
    obtain ⟨b, vs, e2, k, ps⟩ := r.lst e
    rw [e1] at e2; cases e2
    exact ⟨a, vs, xs, rfl, .inl (SqL.of k), ps, w⟩
  · obtain ⟨a, vs, rfl, t, ps⟩ := p
    exact ⟨a, vs, _, rfl, .inl t.sq, ps, w⟩
  · obtain ⟨a, vs, rfl, t, ps⟩ := p
    exact ⟨a, vs, _, rfl, .inr t.sq, ps, w⟩
  · obtain ⟨a, vs, rfl, t, ps⟩ := p
    exact ⟨a, vs, _, rfl, .inr t.sq, ps, w⟩
  · exact w.elim

theorem cb_len : CallR X (.builtin "len") (LRC X (biW .len)) := by
  intro pins s σ H vs us Q I rs q
  obtain ⟨ρ, h, xs, F, r, ps, kq, w⟩ := q
  match xs, w with
  | [.str z], ⟨l, w⟩ =>
    obtain ⟨v, rfl, p⟩ := reps1 ps
    obtain rfl := p
    exact call_len_str pins s σ H _ us Q I rs ⟨z, rfl, by rw [← big_eq]; exact l, kq.int r w⟩
  | [.tup ys], w =>
    obtain ⟨v, rfl, p⟩ := reps1 ps
    obtain ⟨a, vs, rfl, t, ps⟩ := p
    exact call_len_seq pins s σ H _ us Q I rs ⟨a, vs, rfl, .inr t.sq, by rw [← ps.len]; exact kq.int r w⟩
  | [.itp ys], w =>
    obtain ⟨v, rfl, p⟩ := reps1 ps
    obtain ⟨a, vs, rfl, t, ps⟩ := p
    exact call_len_seq pins s σ H _ us Q I rs ⟨a, vs, rfl, .inr t.sq, by rw [← ps.len]; exact kq.int r w⟩
  | [.ils ys], w =>
    obtain ⟨v, rfl, p⟩ := reps1 ps
    obtain ⟨a, vs, rfl, t, ps⟩ := p
    exact call_len_seq pins s σ H _ us Q I rs ⟨a, vs, rfl, .inl t.sq, by rw [← ps.len]; exact kq.int r w⟩
  | [.ref i], w =>
    obtain ⟨v, rfl, p⟩ := reps1 ps
    obtain ⟨ys, e, w⟩ := getL_some (show getL h i _ from w)
    obtain ⟨a, e1, rfl⟩ := p
    obtain ⟨b, ws, e2, k, ps⟩ := r.lst e
    rw [e1] at e2; cases e2
    exact call_len_seq pins s σ H _ us Q I rs ⟨a, ws, rfl, .inl (SqL.of k), by rw [← ps.len]; exact kq.int r w⟩
theorem max_ite (i j : Int) : max i j = if j > i then j else i := by
  by_cases h : j > i
  · rw [if_pos h]; omega
  · rw [if_neg h]; omega
theorem min_ite (i j : Int) : min i j = if j < i then j else i := by
  by_cases h : j < i
  · rw [if_pos h]; omega
  · rw [if_neg h]; omega
theorem cb_max2 (hc : X.calm = true) : CallR X (.builtin "max") (LRC X (biW .max2)) := callr_imp (call_max2 hc) fun vs H Q q => by
  obtain ⟨ρ, h, xs, F, r, ps, kq, w⟩ := q
  match xs, w with
  | [.int i, .int j], w =>
    obtain ⟨v, u, rfl, p1, p2⟩ := reps2 ps
    obtain rfl := p1
    obtain rfl := p2
    exact ⟨i, j, rfl, by rw [← max_ite]; exact kq.int r w⟩
theorem cb_min2 (hc : X.calm = true) : CallR X (.builtin "min") (LRC X (biW .min2)) := callr_imp (call_min2 hc) fun vs H Q q => by
  obtain ⟨ρ, h, xs, F, r, ps, kq, w⟩ := q
  match xs, w with
  | [.int i, .int j], w =>
    obtain ⟨v, u, rfl, p1, p2⟩ := reps2 ps
    obtain rfl := p1
    obtain rfl := p2
    exact ⟨i, j, rfl, by rw [← min_ite]; exact kq.int r w⟩
theorem minL_mem : ∀ ns : List Int, ns ≠ [] → minL ns ∈ ns ∧ ∀ y ∈ ns, minL ns ≤ y
  | [], h => absurd rfl h
  | [x], _ => ⟨by simp [minL], fun y hy => by simp [minL] at hy ⊢; omega⟩
  | x :: y :: r, _ => by
    obtain ⟨h1, h2⟩ := minL_mem (y :: r) (by simp)
    have e : minL (x :: y :: r) = min x (minL (y :: r)) := rfl
    refine ⟨?_, fun z hz => ?_⟩
    · rw [e]
      by_cases hx : minL (y :: r) ≤ x
      · rw [Int.min_eq_right hx]; exact List.mem_cons_of_mem _ h1
      · rw [Int.min_eq_left (by omega)]; exact List.mem_cons_self
    · rw [e]
      rcases List.mem_cons.mp hz with rfl | hz
      · omega
      · have := h2 z hz; omega
theorem cr_minT (hc : X.calm = true) (hu : X.A.units + 65 < cLine) : CallR X (.builtin "min") (fun vs H Q => ∃ (a : Addr) (ns : List Int), vs = [V.ref a] ∧ SqT X.K H a (ns.map V.int) ∧ ns ≠ [] ∧ Q (.int (minL ns)) H) := by
  intro pins s σ H vs us Q I r h
  obtain ⟨a, ns, rfl, hs, hne, q⟩ := h
  obtain ⟨its, rv, hl, _⟩ := I.tuple hs
  rw [Vals.ref1 r]
  obtain ⟨n, r, rfl⟩ : ∃ n r, ns = n :: r := by
    cases ns with
    | nil => exact absurd rfl hne
    | cons n r => exact ⟨n, r, rfl⟩
  have al : PySem.W.AlikeAll (PyData.int n :: r.map PyData.int) := by
    refine ⟨fun x hx y hy => ?_, fun x hx => ?_⟩
    · have hx : x ∈ (n :: r).map PyData.int := hx
      have hy : y ∈ (n :: r).map PyData.int := hy
      obtain ⟨i, _, rfl⟩ := List.mem_map.mp hx
      obtain ⟨j, _, rfl⟩ := List.mem_map.mp hy
      rfl
    · have hx : x ∈ (n :: r).map PyData.int := hx
      obtain ⟨i, _, rfl⟩ := List.mem_map.mp hx
      intro e; cases e
  have dp : ∀ l : List Int, PyData.depthAll (l.map PyData.int) = 0 := fun l => by
    induction l with
    | nil => rfl
    | cons x l ih =>
      show max 0 (PyData.depthAll (l.map PyData.int)) = 0
      rw [ih]; rfl
  have dp2 : PyData.depthAll (PyData.int n :: r.map PyData.int) = 0 := dp (n :: r)
  refine PySem.W.min_tuple_data (x := .int n) (xs := r.map .int) (I.ok.hd hc) hl (rv.ints.reads _) al (by rw [dp2]; omega) fun i v h' tk bs hi rd hk => ?_
  rw [PySem.W.minD_ints] at rd
  have e : r.foldl min n = minL (n :: r) := by
    have : ∀ (l : List Int) (m : Int), l.foldl min m = minL (m :: l) := fun l => by
      induction l with
      | nil => intro m; rfl
      | cons x l ih =>
        intro m
        rw [List.foldl_cons, ih]
        show minL (min m x :: l) = min m (minL (x :: l))
        cases l with
        | nil => rfl
        | cons y l =>
          show min (min m x) (minL (y :: l)) = min m (min x (minL (y :: l)))
          omega
    exact this r n
  rw [e] at rd
  obtain ⟨t, rfl⟩ : ∃ t, v = Value.int (minL (n :: r)) t := by cases rd; exact ⟨_, rfl⟩
  exact ⟨.int _, H, I.kept hk, ⟨_, rfl⟩, q⟩
theorem cb_minl (hc : X.calm = true) (hu : X.A.units + 65 < cLine) : CallR X (.builtin "min") (LRC X (biW .minl)) := by
  intro pins s σ H vs us Q I rs q
  obtain ⟨ρ, h, xs, F, r, ps, kq, w⟩ := q
  match xs, w with
  | [x], w =>
    obtain ⟨v, rfl, p⟩ := reps1 ps
    obtain ⟨a, vs, ys, rfl, sq, ps, ns, e, hn, w⟩ := seqW_some r p w
    obtain rfl := ps.ints e
    rcases sq with sq | sq
    · refine cr_min hc pins s σ H _ us Q I rs ⟨a, ns, rfl, sq, List.length_pos_iff.mpr hn, fun m h1 h2 => ?_⟩
      obtain ⟨g1, g2⟩ := minL_mem ns hn
      have : m = minL ns := by have := h2 _ g1; have := g2 _ h1; omega
      subst this
      exact kq.int r w
    · exact cr_minT hc hu pins s σ H _ us Q I rs ⟨a, ns, rfl, sq, hn, kq.int r w⟩
theorem cb_sum (hc : X.calm = true) : CallR X (.builtin "sum") (LRC X (biW .sum)) := callr_imp (cr_sum hc) fun vs H Q q => by
  obtain ⟨ρ, h, xs, F, r, ps, kq, w⟩ := q
  match xs, w with
  | [x], w =>
    obtain ⟨v, rfl, p⟩ := reps1 ps
    obtain ⟨a, vs, ys, rfl, sq, ps, ns, e, w⟩ := listW_some r p w
    obtain rfl := ps.ints e
    exact ⟨a, ns, rfl, sq, kq.int r w⟩
theorem cb_all (hc : X.calm = true) : CallR X (.builtin "all") (LRC X (biW .all)) := callr_imp (cr_all hc) fun vs H Q q => by
  obtain ⟨ρ, h, xs, F, r, ps, kq, w⟩ := q
  match xs, w with
  | [x], w =>
    obtain ⟨v, rfl, p⟩ := reps1 ps
    obtain ⟨a, vs, ys, rfl, sq, ps, ns, e, w⟩ := listW_some r p w
    obtain rfl := ps.bools e
    exact ⟨a, ns, rfl, sq, kq.bl r w⟩
/-! ### dict(..) -/
theorem keyAtom_rep {K : PySem.W.Frag} {ρ : List Addr} {H : Hp} {x : PV} {v : V} {k : At} (e : keyAtom x = some k) (p : Rep K ρ H x v) : v = kV k := by
  cases x with
  | int i => simp [keyAtom] at e; subst e; exact p
  | str s => simp [keyAtom] at e; subst e; exact p
  | _ => simp [keyAtom] at e
theorem keyAtoms_list {K : PySem.W.Frag} {ρ : List Addr} {H : Hp} : ∀ {xs : List PV} {vs : List V} {ks : List At}, keyAtoms xs = some ks → Reps K ρ H xs vs → vs = ks.map kV
  | [], vs, ks, e, p => by cases p; simp [keyAtoms] at e; subst e; rfl
  | x :: xs, vs, ks, e, ⟨v, r, e1, p, ps⟩ => by
    subst e1
    unfold keyAtoms at e
    split at e
    · rename_i k ks' h1 h2
      cases e
      rw [keyAtoms_list h2 ps, keyAtom_rep h1 p]
      rfl
    · cases e

/-! ### sorted, min and max with default= -/
open PySem.W (EachIs) in
theorem each_of {K : PySem.W.Frag} {ρ : List Addr} {H : Hp} : ∀ {ys : List PV} {vs : List V} {ds : List PyData}, Reps K ρ H ys vs → EachIs (fun (p : PV × PyData) (q : V × PyData) => Rep K ρ H p.1 q.1 ∧ p.2 = q.2) (ys.zip ds) (vs.zip ds)
  | [], _, _, q => by cases q; exact .nil
  | y :: ys, _, [], ⟨v, r, e, q, t⟩ => by subst e; exact .nil
  | y :: ys, _, d :: ds, ⟨v, r, e, q, t⟩ => by subst e; exact .cons ⟨q, rfl⟩ (each_of t)
open PySem.W (EachIs) in
theorem of_each {K : PySem.W.Frag} {ρ : List Addr} {H : Hp} : ∀ {ps : List (PV × PyData)} {qs : List (V × PyData)}, EachIs (fun (p : PV × PyData) (q : V × PyData) => Rep K ρ H p.1 q.1 ∧ p.2 = q.2) ps qs → Reps K ρ H (ps.map (·.1)) (qs.map (·.1))
  | _, _, .nil => rfl
  | _, _, .cons r t => ⟨_, _, rfl, r.1, of_each t⟩
theorem each_mem2 {α β : Type} {R : α → β → Prop} : ∀ {as : List α} {bs : List β}, PySem.W.EachIs R as bs → ∀ p ∈ as.zip bs, R p.1 p.2
  | _, _, .nil, p, h => by cases h
  | _, _, .cons r t, p, h => by
    rcases List.mem_cons.mp h with h | h
    · subst h; exact r
    · exact each_mem2 t p h
theorem Reps.sort {K : PySem.W.Frag} {ρ : List Addr} {H : Hp} {ys : List PV} {vs : List V} {ds : List PyData} (q : Reps K ρ H ys vs) : Reps K ρ H (sortZ ys ds) (Zh.sortV (vs.zip ds)) := by
  have e := each_of (ds := ds) q
  refine of_each (PySem.W.sort_each e fun p hp q hq => ?_)
  have h1 := (each_mem2 e p hp).2
  have h2 := (each_mem2 e q hq).2
  show PySem.W.dataLe false (fun p => p.2) p.1 q.1 = PySem.W.dataLe false (fun p => p.2) p.2 q.2
  rw [PySem.W.dataLe_eq, PySem.W.dataLe_eq]
  simp only [h1, h2]
theorem cb_sorted (hu : X.A.units + 65 < cLine) : CallR X (.builtin "sorted") (LRC X (biW .sorted)) := callr_imp (Zh.cr_sortedDA hu) fun vs H Q q => by
  obtain ⟨ρ, h, xs, F, r, ps, kq, w⟩ := q
  match xs, w with
  | [x], w =>
    obtain ⟨v, rfl, p⟩ := reps1 ps
    obtain ⟨a, vs, ys, rfl, sq, ps, ds, e, al, so, w⟩ := seqW_some r p w
    refine ⟨a, vs, ds, rfl, sq, dat_all _ (dat_dp r 59) ys vs ds ps e, al, so, fun d hd => ?_, fun l hl => kq.newL r ps.sort w hl⟩
    have := seq_depth h 59 ys ds e
    have : ∀ (ds : List PyData), d ∈ ds → d.depth ≤ PyData.depthAll ds := fun ds => by
      induction ds with
      | nil => intro h; cases h
      | cons x ds ih =>
        intro h
        show d.depth ≤ max x.depth (PyData.depthAll ds)
        rcases List.mem_cons.mp h with h | h
        · subst h; omega
        · have := ih h; omega
    have := this ds hd
    omega
end
end Z

/-! ZsG: calls: built-ins by name, methods, isinstance, defs. -/
namespace Z
open PySem PyProof.Rows L2

section
variable {X : Cx} {W : WX} {e a b c : Expr} {es : List Expr} {pos p : Pos} {Γ : List Spec} {x y : Ex} {xs : List Ex}

theorem le_bi {op : List PV → Hep → KQ → Prop} (σ : L2.St) (H : Hp) (Q : VK) (q : LE X W (fun σz h F E => wEs Γ xs σz h (fun ys h1 => op ys h1 F) E) σ H Q) : tCB (LRC X op) (LA X W (wEs Γ xs)) σ H Q := by
  obtain ⟨ρ, σz, h, F, E, s, kq, kx, w⟩ := q
  refine ⟨ρ, σz, h, _, E, s, fun ys h1 ρ1 H1 vs n1 r1 ps w1 => ?_, kx, w⟩
  exact ⟨ρ1, h1, ys, F, r1, ps, kq.nx n1, w1⟩
theorem le_bi' {bi : BI} (σ : L2.St) (H : Hp) (Q : VK) (q : LE X W (wE Γ (.bi bi xs)) σ H Q) : LE X W (fun σz h F E => wEs Γ xs σz h (fun ys h1 => biW bi ys h1 F) E) σ H Q := by
  obtain ⟨ρ, σz, h, F, E, s, kq, kx, w⟩ := q
  unfold wE at w
  exact ⟨ρ, σz, h, F, E, s, kq, kx, w⟩

/-- the names of the built-ins, and whether they are classes -/
def biName : BI → Option (String × Bool)
  | .len => some ("len", false) | .max2 => some ("max", false) | .min2 => some ("min", false) | .sum => some ("sum", false) | .all => some ("all", false)
  | .sorted => some ("sorted", false)
  | .minl => some ("min", false)
  | _ => none
theorem star_plain {es : List Expr} {env : PySem.Env} (h : ∀ a ∈ es, ∀ r, starEach (a :: r) env = (false, eval a env) :: starEach r env) : (backTo pos (starEach es env)).any (·.1) = false := by
  induction es with
  | nil => rfl
  | cons a r ih =>
    rw [h a List.mem_cons_self r]
    show ((false, _) :: backTo pos (starEach r env)).any (·.1) = false
    rw [List.any_cons, ih fun b hb => h b (List.mem_cons_of_mem _ hb)]
    rfl
/-- a built-in called by its name -/
theorem ze_bi {bi : BI} {nm : String} {ty : Bool} (hn : biName bi = some (nm, ty)) (hc : X.calm = true) (hu : X.A.units + 65 < cLine) (hg : Gl X nm) (hm : X.mg nm = none) (ha : PA X (e :: es) (LA X W (wEs Γ xs)))
    (hs : ∀ a ∈ e :: es, ∀ r, starEach (a :: r) X.env = (false, eval a X.env) :: starEach r X.env) : PE X (.Call (.Name nm p) (e :: es) [] pos) (LE X W (wE Γ (.bi bi xs))) := by
  have h1 := hs e List.mem_cons_self es
  have h2 : (backTo pos (starEach es X.env)).any (·.1) = false := star_plain fun b hb => hs b (List.mem_cons_of_mem _ hb)
  cases bi with
  | len => cases hn; exact pe_imp (pe_callB cb_len hg hm PySem.boot_len ha (by decide) (by decide) h1 h2) fun σ H Q q => le_bi σ H Q (le_bi' σ H Q q)
  | max2 => cases hn; exact pe_imp (pe_callB (cb_max2 hc) hg hm (by decide +kernel) ha (by decide) (by decide) h1 h2) fun σ H Q q => le_bi σ H Q (le_bi' σ H Q q)
  | min2 => cases hn; exact pe_imp (pe_callB (cb_min2 hc) hg hm (by decide +kernel) ha (by decide) (by decide) h1 h2) fun σ H Q q => le_bi σ H Q (le_bi' σ H Q q)
  | minl => cases hn; exact pe_imp (pe_callB (cb_minl hc hu) hg hm (by decide +kernel) ha (by decide) (by decide) h1 h2) fun σ H Q q => le_bi σ H Q (le_bi' σ H Q q)
  | sum => cases hn; exact pe_imp (pe_callB (cb_sum hc) hg hm (by decide +kernel) ha (by decide) (by decide) h1 h2) fun σ H Q q => le_bi σ H Q (le_bi' σ H Q q)
  | all => cases hn; exact pe_imp (pe_callB (cb_all hc) hg hm (by decide +kernel) ha (by decide) (by decide) h1 h2) fun σ H Q q => le_bi σ H Q (le_bi' σ H Q q)
  | sorted => cases hn; exact pe_imp (pe_callB (cb_sorted hu) hg hm (by decide +kernel) ha (by decide) (by decide) h1 h2) fun σ H Q q => le_bi σ H Q (le_bi' σ H Q q)
  | _ => cases hn
/-- tuple(x) -/
theorem ze_tuple (hg : Gl X "tuple") (hm : X.mg "tuple" = none) (ha : PE X a (LE X W (wE Γ x))) (hs : starEach [a] X.env = (false, eval a X.env) :: starEach [] X.env) : PE X (.Call (.Name "tuple" p) [a] [] pos) (LE X W (wE Γ (.bi .tuple [x]))) := by
  refine pe_imp (pe_tupleOf hg hm ha hs) fun σ H Q ⟨ρ, σz, h, F, E, s, kq, kx, w⟩ => ?_
  unfold wE wEs at w
  refine ⟨ρ, σz, h, _, E, s, fun y h1 ρ1 H1 v n1 r1 p1 w1 => ?_, kx, w⟩
  unfold wEs at w1
  cases y with
  | ref i =>
    obtain ⟨ys, e, w1⟩ := getL_some (show getL h1 i fun ys => F (.tup ys) h1 from w1)
    obtain ⟨a, e1, rfl⟩ := p1
    obtain ⟨b, vs, e2, k, ps⟩ := r1.lst e
    rw [e1] at e2; cases e2
    exact .inl ⟨a, vs, rfl, SqL.of k, fun q hq => (kq.nx n1).newT r1 ps w1 hq⟩
  | ils ys =>
    obtain ⟨a, vs, rfl, t, ps⟩ := p1
    exact .inl ⟨a, vs, rfl, t.sq, fun q hq => (kq.nx n1).newT r1 ps w1 hq⟩
  | tup ys =>
    obtain ⟨a, vs, rfl, t, ps⟩ := p1
    exact .inr ⟨a, vs, rfl, t.sq, (kq.nx n1).here r1 (x := .tup ys) ⟨a, vs, rfl, t, ps⟩ w1⟩
  | itp ys =>
    obtain ⟨a, vs, rfl, t, ps⟩ := p1
    exact .inr ⟨a, vs, rfl, t.sq, (kq.nx n1).here r1 (x := .itp ys) ⟨a, vs, rfl, t, ps⟩ w1⟩
  | _ => exact False.elim w1
/-- len(set(x)) of a list of keys -/
theorem ze_lenkeys {p2 q : Pos} (hc : X.calm = true) (hg : Gl X "len") (hm : X.mg "len" = none) (hg2 : Gl X "set") (hm2 : X.mg "set" = none) (ha : PE X a (LE X W (wE Γ x))) (hs : starEach [a] X.env = (false, eval a X.env) :: starEach [] X.env) :
    PE X (.Call (.Name "len" p) [.Call (.Name "set" p2) [a] [] q] [] pos) (LE X W (wE Γ (.bi .lenkeys [x]))) := by
  have h1 := pe_callTy (p := p2) (pos := q) (CallR.or (Zh.cr_setKeys hc) (Zh.cr_setKeysT hc)) hg2 hm2 boot_set (pa_cons ha pa_nil hs) (by decide) (by decide) hs (by rfl)
  refine pe_imp (pe_callB Zh.cr_lenSetK hg hm PySem.boot_len (pa_cons h1 pa_nil rfl) (by decide) (by decide) rfl rfl) fun σ H Q ⟨ρ, σz, h, F, E, s, kq, kx, w⟩ => ?_
  unfold wE wEs at w
  refine ⟨ρ, σz, h, _, E, s, fun y h1 ρ1 H1 v n1 r1 p1 w1 => ?_, kx, w⟩
  unfold wEs at w1
  obtain ⟨a, vs, ys, rfl, sq, ps, ks, e, l, w1⟩ := seqW_some r1 p1 (show seqW h1 y _ from w1)
  obtain rfl := keyAtoms_list e ps
  have lf := Zh.firsts_le ks
  have last : ∀ p, H1 p = none → Zh.rLenSetK X.prog X.w [.ref p] (upd H1 p (SetK X.prog X.w p (Zh.inFirst ks) (Zh.firsts ks).length)) Q := fun p hp => by
    obtain ⟨r2, n2⟩ := r1.tupl hp (SetK X.prog X.w p (Zh.inFirst ks) (Zh.firsts ks).length)
    exact ⟨p, _, _, rfl, upd_same, by omega, ((kq.nx n1).nx n2).int r2 w1⟩
  rcases sq with sq | sq
  · exact .inl ⟨a, ks, rfl, sq, by unfold scanBound; omega, last⟩
  · exact .inr ⟨a, ks, rfl, sq, by unfold scanBound; omega, last⟩
/-- x[::-1] -/
theorem ze_rev {k : Nat} {p1 p2 p3 : Pos} (ha : PE X a (LE X W (wE Γ x))) : PE X (.Subscript a (.Slice none none (some (.UnaryOp .USub (.Constant (.int 1) k p1) p2)) p3) pos) (LE X W (wE Γ (.rev x))) := by
  refine pe_imp (Zh.pe_revA ha) fun σ H Q ⟨ρ, σz, h, F, E, s, kq, kx, w⟩ => ?_
  unfold wE at w
  refine ⟨ρ, σz, h, _, E, s, fun y h1 ρ1 H1 v n1 r1 p1 w1 => ?_, kx, w⟩
  have lst : ∀ G : List PV → Prop, listW h1 y G → (∀ ys, G ys → F (.ref h1.length) (h1 ++ [.lst ys.reverse])) → ∃ a xs, v = .ref a ∧ ((SqL X.K H1 a xs ∧ ∀ p, H1 p = none → Q (.ref p) (upd H1 p (.lst xs.reverse))) ∨ (SqT X.K H1 a xs ∧ ∀ p o, o.dict = none → H1 p = none → Q (.ref p) (upd H1 p (.frz o (.tup xs.reverse)))) ∨ (SqT X.K H1 a xs ∧ ∀ p, H1 p = none → Q (.ref p) (upd H1 p (.tup xs.reverse)))) := fun G w hG => by
    obtain ⟨a, vs, ys, rfl, sq, ps, w1⟩ := listW_some r1 p1 w
    exact ⟨a, vs, rfl, .inl ⟨sq, fun q hq => (kq.nx n1).newL r1 ps.rev (hG _ w1) hq⟩⟩
  unfold revW at w1
  split at w1
  · obtain ⟨a, vs, rfl, t, ps⟩ := p1
    exact ⟨a, vs, rfl, .inr (.inl ⟨t.sq, fun p o d hp => (kq.nx n1).newW r1 ps.rev d w1 hp⟩)⟩
  · obtain ⟨a, vs, rfl, t, ps⟩ := p1
    exact ⟨a, vs, rfl, .inr (.inl ⟨t.sq, fun p o d hp => (kq.nx n1).newW r1 ps.rev d w1 hp⟩)⟩
  · exact lst (fun ys => F (.ref h1.length) (h1 ++ [Ob.lst ys.reverse])) (by unfold listW; exact w1) fun _ k => k
  · exact lst (fun ys => F (.ref h1.length) (h1 ++ [Ob.lst ys.reverse])) (by unfold listW; exact w1) fun _ k => k
  · exact w1.elim
/-- list(range(n)) -/
theorem ze_listrange {p2 q : Pos} (hc : X.calm = true) (hg : Gl X "list") (hm : X.mg "list" = none) (hg2 : Gl X "range") (hm2 : X.mg "range" = none) (ha : PE X a (LE X W (wE Γ x))) (hs : starEach [a] X.env = (false, eval a X.env) :: starEach [] X.env) :
    PE X (.Call (.Name "list" p) [.Call (.Name "range" p2) [a] [] q] [] pos) (LE X W (wE Γ (.bi .listrange [x]))) := by
  refine pe_imp (pe_listRg hc hg hm (prg_1 hg2 hm2 ha hs)) fun σ H Q ⟨ρ, σz, h, F, E, s, kq, kx, w⟩ => ?_
  unfold wE wEs at w
  refine ⟨ρ, σz, h, _, E, s, fun y h1 ρ1 H1 v n1 r1 p1 w1 => ?_, kx, w⟩
  unfold wEs at w1
  cases y with
  | int n =>
    obtain rfl := p1
    obtain ⟨z1, z2, w1⟩ : -(2 ^ 62) ≤ n ∧ n ≤ big ∧ F (.ref h1.length) (h1 ++ [Ob.lst ((List.range n.toNat).map fun (i : Nat) => PV.int i)]) := w1
    have hb : (big : Int) = 16777216 := rfl
    refine ⟨n, rfl, ⟨by omega, by omega, by omega, by omega, by omega⟩, fun q hq => ?_⟩
    have ps : Reps X.K ρ1 H1 ((List.range n.toNat).map fun (i : Nat) => PV.int i) (rgV 0 n) := by
      unfold rgV
      rw [show (n - 0).toNat = n.toNat by rw [Int.sub_zero]]
      refine reps_map (f := fun (i : Nat) => PV.int i) (g := fun (i : Nat) => V.int (0 + (i : Int))) (fun i => ?_) _
      show V.int (0 + (i : Int)) = V.int (i : Int)
      rw [Int.zero_add]
    exact (kq.nx n1).newL r1 ps w1 hq
  | _ => exact False.elim w1
/-- list(range(a, b)) -/
theorem ze_listrange2 {b : Expr} {y : Ex} {p2 q : Pos} (hc : X.calm = true) (hg : Gl X "list") (hm : X.mg "list" = none) (hg2 : Gl X "range") (hm2 : X.mg "range" = none) (ha : PE X a (LE X W (wE Γ x))) (hb : PE X b (LE X W (wE Γ y)))
    (hs : starEach [a, b] X.env = (false, eval a X.env) :: starEach [b] X.env) (hs2 : starEach [b] X.env = (false, eval b X.env) :: starEach [] X.env) (hp : (backTo q (starEach [b] X.env)).any (·.1) = false) :
    PE X (.Call (.Name "list" p) [.Call (.Name "range" p2) [a, b] [] q] [] pos) (LE X W (wE Γ (.bi .listrange [x, y]))) := by
  refine pe_imp (pe_listRg hc hg hm (prg_2 hg2 hm2 ha hb hs hs2 hp)) fun σ H Q ⟨ρ, σz, h, F, E, s, kq, kx, w⟩ => ?_
  unfold wE wEs at w
  refine ⟨ρ, σz, h, _, E, s, fun y h1 ρ1 H1 v n1 r1 p1 w1 => ?_, kx, w⟩
  unfold wEs at w1
  refine ⟨ρ1, σz, h1, _, E, s.nx n1 r1, fun z h2 ρ2 H2 v2 n2 r2 p2 w2 => ?_, kx.nx n1, w1⟩
  unfold wEs at w2
  cases y with
  | int i =>
    cases z with
    | int j =>
      obtain rfl : v = .int i := p1
      obtain rfl : v2 = .int j := p2
      obtain ⟨z1, z2, z3, z4, z5, w2⟩ : -(2 ^ 62) ≤ i ∧ i < 2 ^ 62 ∧ -(2 ^ 62) ≤ j ∧ j < 2 ^ 62 ∧ j - i ≤ big ∧ F (.ref h2.length) (h2 ++ [Ob.lst ((List.range (j - i).toNat).map fun (k : Nat) => PV.int (i + k))]) := w2
      have hb : (big : Int) = 16777216 := rfl
      refine ⟨i, j, rfl, rfl, ⟨by omega, by omega, by omega, by omega, by omega⟩, fun q hq => ?_⟩
      have ps : Reps X.K ρ2 H2 ((List.range (j - i).toNat).map fun (k : Nat) => PV.int (i + k)) (rgV i j) := by
        unfold rgV
        exact reps_map (f := fun (k : Nat) => PV.int (i + k)) (g := fun (k : Nat) => V.int (i + (k : Int))) (fun k => rfl) _
      exact ((kq.nx n1).nx n2).newL r2 ps w2 hq
    | _ => exact False.elim w2
  | _ => exact False.elim w2

/-! ### isinstance -/
def itName : IT → String
  | .int => "int" | .bool => "bool" | .str => "str" | .list => "list" | .tuple => "tuple" | .dict => "dict"
theorem isT_rule {ρ : List Addr} {h : Hep} {H : Hp} {y : PV} {v : V} {t : IT} {K : Bool → Prop} (r : HR X.K X.mg ρ h H) (p : Rep X.K ρ H y v) (w : isT t h y K) : ∃ (ty : Value) (b : Bool), TyX X.K H v ty ∧ PySem.W.kitOne X.K ty (.type (itName t)) = some b ∧ K b := by
  cases y with
  | non => obtain rfl := p; exact ⟨_, false, .base .non, by cases t <;> exact kit_ty (by decide +kernel), w⟩
  | bl b => obtain rfl := p; exact ⟨_, _, .base (.bl b), by cases t <;> exact kit_ty (by decide +kernel), w⟩
  | int b => obtain rfl := p; exact ⟨_, _, .base (.int b), by cases t <;> exact kit_ty (by decide +kernel), w⟩
  | str b => obtain rfl := p; exact ⟨_, _, .base (.str b), by cases t <;> exact kit_ty (by decide +kernel), w⟩
  | tup b =>
    obtain ⟨a, vs, rfl, tl, ps⟩ := p
    exact ⟨_, _, .base (.tup tl), by cases t <;> exact kit_ty (by decide +kernel), w⟩
  | itp b =>
    obtain ⟨a, vs, rfl, tl, ps⟩ := p
    rcases tl with ⟨o, _, tl⟩ | ⟨o, its, n, _, hk, hcl, _⟩
    · exact ⟨_, _, .fTuple tl, by cases t <;> exact kit_ty (by decide +kernel), w⟩
    · exact ⟨_, _, .kTuple hk hcl, by cases t <;> exact kit_ty (by decide +kernel), w⟩
  | exc c ns xs => exact w.elim
  | fnv f c q' xs vs => exact w.elim
  | lam ds k q' cl => exact w.elim
  | ils b =>
    obtain ⟨a, vs, rfl, tl, ps⟩ := p
    rcases tl with ⟨o, tl⟩ | (tl | ⟨o, tl⟩) | ⟨o, its, n, hk, hcl, _⟩
    · exact ⟨_, _, .base (.frz tl), by cases t <;> exact kit_ty (by decide +kernel), w⟩
    · cases tl
    · cases tl
    · exact ⟨_, _, .kList hk hcl, by cases t <;> exact kit_ty (by decide +kernel), w⟩
  | ref i =>
    have w' : (match h[i]? with | some (.lst _) => K (t == .list) | some (.dic _) => K (t == .dict) | _ => False) := w
    obtain ⟨a, e1, rfl⟩ := p
    split at w'
    · rename_i ys e
      obtain ⟨b, vs, e2, k, ps⟩ := r.lst e
      rw [e1] at e2; cases e2
      exact ⟨_, _, .base (.lst k), by cases t <;> exact kit_ty (by decide +kernel), w'⟩
    · rename_i kvs e
      obtain ⟨b, e2, q⟩ := r.get e
      rw [e1] at e2; cases e2
      rcases q with ⟨ws, k, _⟩ | ⟨ws, k, _⟩
      · exact ⟨_, _, .base (.dK k), by cases t <;> exact kit_ty (by decide +kernel), w'⟩
      · exact ⟨_, _, .base (.dT k), by cases t <;> exact kit_ty (by decide +kernel), w'⟩
    · exact w'.elim
theorem boot_it (t : IT) : bootBuiltins (itName t) = some (.type (itName t)) := by cases t <;> decide +kernel
theorem ze_isi {t : IT} {p2 : Pos} (hg : Gl X "isinstance") (hm : X.mg "isinstance" = none) (hg2 : Gl X (itName t)) (hm2 : X.mg (itName t) = none) (ha : PE X a (LE X W (wE Γ x))) (hs : ∀ r, starEach (a :: r) X.env = (false, eval a X.env) :: starEach r X.env) :
    PE X (.Call (.Name "isinstance" p) [a, .Name (itName t) p2] [] pos) (LE X W (wE Γ (.isi x t))) := by
  have hb : PE X (.Name (itName t) p2) (tC (.ty (itName t))) := pe_bltn hg2 hm2 (boot_it t) rfl (by cases t <;> decide) (by cases t <;> decide)
  have hpa : PA X [a, .Name (itName t) p2] (tCons (LE X W (wE Γ x)) (tCons (tC (.ty (itName t))) tNil)) := pa_cons ha (pa_cons hb pa_nil rfl) (hs _)
  refine pe_imp (pe_callB call_isi hg hm (by decide +kernel) hpa (by decide) (by decide) (hs _) rfl) fun σ H Q ⟨ρ, σz, h, F, E, s, kq, kx, w⟩ => ?_
  unfold wE at w
  refine ⟨ρ, σz, h, _, E, s, fun y h1 ρ1 H1 v n1 r1 p1 w1 => ?_, kx, w⟩
  obtain ⟨ty, b, tx, k, w1⟩ := isT_rule r1 p1 w1
  exact ⟨v, _, ty, _, b, rfl, .ty _, tx, k, (kq.nx n1).bl r1 w1⟩

/-! ### methods of lists -/
theorem tyV_list {H : Hp} {a : Addr} {vs : List V} (k : H a = some (.lst vs)) : tyV X.K "list" (.ref a) H := .inl ⟨rfl, _, SqL.of k⟩
theorem listed {h : Hep} {r : Nat} {K : List PV → Prop} {ρ : List Addr} {H : Hp} {v : V} (hr : HR X.K X.mg ρ h H) (p : Rep X.K ρ H (.ref r) v) (w : getL h r K) : ∃ a vs ys, v = .ref a ∧ ρ[r]? = some a ∧ H a = some (.lst vs) ∧ h[r]? = some (.lst ys) ∧ Reps X.K ρ H ys vs ∧ K ys := by
  obtain ⟨ys, e, w⟩ := getL_some w
  obtain ⟨a, e1, rfl⟩ := p
  obtain ⟨b, vs, e2, k, ps⟩ := hr.lst e
  rw [e1] at e2; cases e2
  exact ⟨a, vs, ys, rfl, e1, k, e, ps, w⟩
/-- the list at a written -/
theorem KQok.setL {ρ : List Addr} {h : Hep} {H : Hp} {F : KQ} {Q : VK} (kq : KQok X ρ H F Q) (r : HR X.K X.mg ρ h H) {i : Nat} {a : Addr} (e : ρ[i]? = some a) {ys : List PV} {vs : List V} (ps : Reps X.K ρ H ys vs) {z : PV} {v : V} (pz : Rep X.K ρ H z v) (w : F z (h.set i (.lst ys))) : Q v (upd H a (.lst vs)) := by
  have n : Nx ρ H ρ (upd H a (.lst vs)) := ⟨⟨[], by simp⟩, fun b o q z => by rw [upd_ne (fun y => z (by rw [y]; exact List.mem_of_getElem? e) : b ≠ a)]; exact q, fun b q z => absurd q z⟩
  obtain ⟨r1, n1⟩ := r.write e (u := .lst vs) (o := .lst ys) ⟨vs, upd_same, ps.nx r n⟩
  exact kq _ _ _ _ _ n1 r1 (pz.nx r n) w
theorem mi_ty {h : Hep} {ρ : List Addr} {H : Hp} {y : PV} {v : V} (r : HR X.K X.mg ρ h H) (p : Rep X.K ρ H y v) (w : isL h y) : tyV X.K "list" v H := by
  cases y with
  | ref i =>
    obtain ⟨a, vs, ys, rfl, e1, k, _⟩ := listed r p (show getL h i fun _ => True from w)
    exact tyV_list k
  | _ => exact w.elim
theorem ze_mi1 {m : MI} {id : String} {nm : Str} {apos : Pos} {rr : V → List V → Hp → VK → Prop} (slot : Slot "list" nm id) (hty : typeOf (.builtin id) = pure (.type "method_descriptor")) (hm : MtR X id rr)
    (ho : ∀ (ρ : List Addr) (h : Hep) (H : Hp) (z : PV) (zs : List PV) (v : V) (vs : List V) (F : KQ) (Q : VK), HR X.K X.mg ρ h H → Rep X.K ρ H z v → Reps X.K ρ H zs vs → KQok X ρ H F Q → miW m z zs h F → rr v vs H Q)
    (ha : PE X a (LE X W (wE Γ x))) (hb : PE X b (LE X W (wE Γ y))) (hbase : attributeBase a nm X.env (eval a X.env) = eval a X.env) (hline : (apos.endLine == pos.line) = true) (hs : ∀ r, starEach (b :: r) X.env = (false, eval b X.env) :: starEach r X.env) :
    PE X (.Call (.Attribute a nm apos) [b] [] pos) (LE X W (wE Γ (.mi m x [y]))) := by
  refine pe_imp (pe_bm PySem.F.plainAttrs_list slot hty hm ha (pa_cons hb pa_nil (hs _)) hbase (by rw [hs]; rfl) hline (hs _) rfl) fun σ H Q ⟨ρ, σz, h, F, E, s, kq, kx, w⟩ => ?_
  unfold wE at w
  refine ⟨ρ, σz, h, _, E, s, fun z h1 ρ1 H1 v n1 r1 p1 w1 => ⟨mi_ty r1 p1 w1.1, ?_⟩, kx, w⟩
  obtain ⟨l, w1⟩ := w1
  unfold wEs at w1
  refine ⟨ρ1, σz, h1, _, E, s.nx n1 r1, fun z2 h2 ρ2 H2 v2 n2 r2 p2 w2 => ?_, kx.nx n1, w1⟩
  unfold wEs at w2
  exact ho ρ2 h2 H2 z [z2] v [v2] F Q r2 (p1.nx r1 n2) (Reps.one p2) (kq.nx (n1.trans n2)) w2
theorem mo_append {ρ : List Addr} {h : Hep} {H : Hp} {z : PV} {zs : List PV} {v : V} {vs : List V} {F : KQ} {Q : VK} (r : HR X.K X.mg ρ h H) (p : Rep X.K ρ H z v) (ps : Reps X.K ρ H zs vs) (kq : KQok X ρ H F Q) (w : miW .append z zs h F) : rAppend v vs H Q := by
  match z, zs, w with
  | .ref i, [y], w =>
    obtain ⟨u, rfl, py⟩ := reps1 ps
    obtain ⟨a, ws, ys, rfl, e1, k, e, qs, l, w⟩ := listed r p (show getL h i fun ys => ys.length < big ∧ F .non (h.set i (.lst (ys ++ [y]))) from w)
    exact ⟨a, ws, u, rfl, rfl, k, by rw [← big_eq, ← qs.len]; exact l, kq.setL r e1 (qs.app (Reps.one py)) (z := .non) rfl w⟩
theorem mo_index {ρ : List Addr} {h : Hep} {H : Hp} {z : PV} {zs : List PV} {v : V} {vs : List V} {F : KQ} {Q : VK} (r : HR X.K X.mg ρ h H) (p : Rep X.K ρ H z v) (ps : Reps X.K ρ H zs vs) (kq : KQok X ρ H F Q) (w : miW .index z zs h F) : rIndexD X.K v vs H Q := by
  match z, zs, w with
  | .ref i, [y], w =>
    obtain ⟨u, rfl, py⟩ := reps1 ps
    obtain ⟨a, ws, ys, rfl, e1, k, e, qs, d, ds, j, z, hd, sd, hds, cl, hz, hzj, hno, w⟩ := listed r p (show getL h i fun ys => ∃ d ds j z, dat h 59 y = some d ∧ SeqAt.shaped d = true ∧ datAll (dat h 59) ys = some ds ∧ PyData.canLayAll0 ds = true ∧ ds[j]? = some z ∧ PyData.eqv z d = true ∧
      (∀ (m : Nat) (z' : PyData), m < j → ds[m]? = some z' → PyData.eqv z' d = false) ∧ F (.int (j : Nat)) h from w)
    have hl : dat h 60 (.ref i) = some (.list ds) := by
      rw [dat, e]
      show (datAll (dat h 59) ys).map PyData.list = _
      rw [hds]; rfl
    exact ⟨a, u, d, ds, j, z, rfl, rfl, dat_dp r 60 _ _ _ p hl, dat_dp r 59 _ _ _ py hd, dat_shaped (by decide) hl cl, sd, hz, hzj, hno, kq.int r w⟩
theorem mo_count {ρ : List Addr} {h : Hep} {H : Hp} {z : PV} {zs : List PV} {v : V} {vs : List V} {F : KQ} {Q : VK} (r : HR X.K X.mg ρ h H) (p : Rep X.K ρ H z v) (ps : Reps X.K ρ H zs vs) (kq : KQok X ρ H F Q) (w : miW .count z zs h F) : Zh.rCountD X.K v vs H Q := by
  match z, zs, w with
  | .ref i, [y], w =>
    obtain ⟨u, rfl, py⟩ := reps1 ps
    obtain ⟨a, ws, ys, rfl, e1, k, e, qs, d, ds, hd, sd, hds, cl, w⟩ := listed r p (show getL h i fun ys => ∃ d ds, dat h 59 y = some d ∧ SeqAt.shaped d = true ∧ datAll (dat h 59) ys = some ds ∧ PyData.canLayAll0 ds = true ∧ F (.int ((ds.countP fun z => PyData.eqv z d : Nat) : Int)) h from w)
    have hl : dat h 60 (.ref i) = some (.list ds) := by
      rw [dat, e]
      show (datAll (dat h 59) ys).map PyData.list = _
      rw [hds]; rfl
    exact ⟨a, u, d, ds, rfl, rfl, dat_dp r 60 _ _ _ p hl, dat_dp r 59 _ _ _ py hd, dat_shaped (by decide) hl cl, sd, kq.int r w⟩
/-! ### d.get -/
/-! ### methods of texts; dicts written out -/
/-! ### calls of defs -/
/-- a promise, as the hand layer has it -/
def lift (K : PySem.W.Frag) (mg : Str → Option Value) (S : Spec) : Sp := fun vs H Q E' => ∃ (ρ : List Addr) (h : Hep) (xs : List PV) (F : KQ) (E : KX), HR K mg ρ h H ∧ Reps K ρ H xs vs ∧
  (∀ (r : PV) (h' : Hep) (ρ' : List Addr) (H' : Hp) (v : V), Nx ρ H ρ' H' → HR K mg ρ' h' H' → Rep K ρ' H' r v → F r h' → Q v H') ∧
  (∀ (x : XV) (h' : Hep) (ρ' : List Addr) (H' : Hp) (cls : Value) (d : Option Addr), Nx ρ H ρ' H' → HR K mg ρ' h' H' → XR K mg ρ' H' x cls d → E x h' → E' cls d H') ∧ S xs h F E
/-- a def that may be called -/
def FnReady (X : Cx) (x : Str) (S : Spec) : Prop := ∃ (f : Addr) (fd : FuncData) (ps : List Str) (j : Nat) (sp : Sp) (ds : List Value) (dvs : List V), X.mg x = some (.ref f) ∧ PySem.W.keepIn X.K (.ref f) = true ∧
  (FnOk X.prog X.w X.K X.mg X.base (L2.CX X.prog X.w) j f fd ps sp ∨ (Zh.GOk X.prog X.w X.K X.mg X.base (L2.CX X.prog X.w) j f fd ps sp ∧ X.A.guards = some [])) ∧ Room j X.A ∧ Binds X.K fd ps ds ∧ Vals dvs ds ∧ ∀ vs H Q E, lift X.K X.mg S vs H Q E → sp (vs ++ dvs) H Q E
theorem ze_call {nm : Str} {S : Spec} {i : Nat} (fr : FnReady X nm S) (hG : Γ[i]? = some S) (tk : Takes X W) (hg : Gl X nm) (hdb : (nm == ("__debug__" : Str)) = false) (ha : PA X es (LA X W (wEs Γ xs)))
    (hx : es = [] → xs = []) (hs : ∀ a ∈ es, ∀ r, starEach (a :: r) X.env = (false, eval a X.env) :: starEach r X.env) : PE X (.Call (.Name nm p) es [] pos) (LE X W (wE Γ (.call i xs))) := by
  obtain ⟨f, fd, ps, j, sp, ds, dvs, hm, hk, F, hr, hb, hd, imp⟩ := fr
  have main : ∀ (σ : L2.St) (H : Hp) (Q : VK), LE X W (wE Γ (.call i xs)) σ H Q → LA X W (wEs Γ xs) σ H (fun vs H1 => sp (vs ++ dvs) H1 Q (fun cls d H => W cls d σ H)) := by
    intro σ H Q ⟨ρ, σz, h, F, E, s, kq, kx, w⟩
    unfold wE at w
    refine ⟨ρ, σz, h, _, E, s, fun ys h1 ρ1 H1 vs n1 r1 ps w1 => imp _ _ _ _ ?_, kx, w⟩
    rw [hG] at w1
    exact ⟨ρ1, h1, ys, F, E, r1, ps, kq.nx n1, kx.nx n1, w1⟩
  refine ⟨fun pins s σ H Q I q => ?_⟩
  have q := main σ H Q q
  cases es with
  | nil =>
    refine wpAny_Call_Name_kw (ld_glob I hg hm ?_ hdb)
    -- the arguments: none
    obtain rfl := hx rfl
    have q : sp ([] ++ dvs) H Q (fun cls d H => W cls d σ H) := by
      obtain ⟨ρ, σz, h, F, E, s, kq, kx, w⟩ := q
      unfold wEs at w
      exact kq [] h ρ H [] Nx.refl s.hr rfl w
    exact PySem.W.callWith_K0 I.kIn hk (Zh.run_or (us := []) (E := fun σ cls d H => W cls d σ H) F hr hb hd (passAt tk σ) I .nil q)
  | cons e es =>
    refine wpAny_Call_Name_kw (ld_glob I hg hm ?_ hdb)
    refine PySem.W.callWith_K (h₀ := X.base) I.ok.mod.kin hk (thn (ha.run pos pins s σ H _ I q) fun us s1 ⟨vs, H1, I1, r, q⟩ => ⟨I1.kIn, ?_⟩) (hs e List.mem_cons_self es) (star_plain fun b hb => hs b (List.mem_cons_of_mem _ hb))
    exact Zh.run_or (E := fun σ cls d H => W cls d σ H) F hr hb hd (passAt tk σ) I1 r q

/-! ### instances -/
def ClReady (X : Cx) (c : Str) (fs : List Str) : Prop := ∃ C : Addr, X.mg c = some (.ref C) ∧ Cls X.K C ∧ ∀ f ∈ fs, NoAttr X.K C f
def MeReady (X : Cx) (c m : Str) (S : Spec) : Prop := ∃ (C f : Addr) (fd : FuncData) (ps : List Str) (j : Nat) (sp : Sp) (ds : List Value) (dvs : List V), X.mg c = some (.ref C) ∧ Cls X.K C ∧ Meth X.K C m f ∧
  FnOk X.prog X.w X.K X.mg X.base (L2.CX X.prog X.w) j f fd ps sp ∧ Room j X.A ∧ Binds X.K fd ps ds ∧ Vals dvs ds ∧ ∀ vs H Q E, lift X.K X.mg S vs H Q E → sp (vs ++ dvs) H Q E
def NwReady (X : Cx) (c : Str) (S : Spec) : Prop := ∃ (C f : Addr) (fd : FuncData) (ps : List Str) (j : Nat) (sp : Sp) (ds : List Value) (dvs : List V), X.mg c = some (.ref C) ∧ Mk X.K C f ∧
  FnOk X.prog X.w X.K X.mg X.base (L2.CX X.prog X.w) j f fd ps sp ∧ Room (j + 1) X.A ∧ Binds X.K fd ps ds ∧ Vals dvs ds ∧ ∀ vs H Q E, lift X.K X.mg S vs H Q E → sp (vs ++ dvs) H Q E
/-- an own error class without own __init__ -/
def ErReady (X : Cx) (c : Str) : Prop := ∃ C : Addr, X.mg c = some (.ref C) ∧ PySem.W.nsIn X.K mainGlobals c = some (some (.ref C)) ∧ PySem.W.excIn X.K C PySem.HandSPX.veTail "ValueError.__new__" = true ∧ PySem.W.keepIn X.K (.ref C) = true ∧
  PySem.W.subIn X.K (.ref C) (.type "BaseException") = some true ∧ PySem.W.typeIn X.K (.ref C) = some (.type "type")
/-- what a name of an error class says -/
def XnIs (X : Cx) (c : Str) (cv : Value) : Prop := X.mg c = some cv ∨ (X.mg c = none ∧ bootBuiltins c = some cv ∧ c ≠ "__name__")
/-- error classes that may come, beside those that are asked for -/
def XsReady (X : Cx) (rs ts : List Str) : Prop := ∀ a ∈ rs, ∃ C : Addr, PySem.W.nsIn X.K mainGlobals a = some (some (.ref C)) ∧ L2.ExcC X.K C ∧
  ∀ c ∈ ts, ∃ cv : Value, XnIs X c cv ∧ PySem.W.exmOne X.K (.ref C) cv = some (subX a c) ∧ PySem.W.kitOne X.K (.ref C) cv = some (subX a c)
/-- an error class whose own __init__ keeps one thing -/
def EiReady (X : Cx) (c f : Str) : Prop := ∃ (C fI : Addr) (fd : FuncData) (ps : List Str) (k : Nat), X.mg c = some (.ref C) ∧ PySem.W.nsIn X.K mainGlobals c = some (some (.ref C)) ∧ OexC X.K C ∧ PySem.W.findIn X.K (.ref C) f = some none ∧
  PySem.W.findIn X.K (.ref C) "__init__" = some (some (.ref fI)) ∧ PySem.W.typeIn X.K (.ref fI) = some (.type "function") ∧ FnOk X.prog X.w X.K X.mg X.base (L2.CX X.prog X.w) k fI fd ps (Zh.spInit X.K f) ∧ Room (k + 1) X.A ∧ Binds X.K fd ps []
def XfReady (X : Cx) (c f : Str) : Prop := ∃ C : Addr, PySem.W.nsIn X.K mainGlobals c = some (some (.ref C)) ∧ L2.XfC X.K C ∧ PySem.W.findIn X.K (.ref C) f = some none
/-- a dict by texts of the module's top, as it stands -/
def KdR (w : World) (K : PySem.W.Frag) (mg : Str → Option Value) (x : Str) (kvs : List (Str × Int)) : Prop := ∃ (D : Addr) (o : Obj) (es : Array DictEntry) (ep : Nat) (vs : List (Key × Value)), mg x = some (.ref D) ∧ K.lookup D = some o ∧ (D == sysModules) = false ∧ o.ExactDict ∧ o.data = .dict es ep ∧
  (∀ P : Program, PySem.KeysOf (mixKind P w) es ∧ PySem.Pairs (mixKind P w) es.toList vs) ∧ (vs.map (·.1)).Nodup ∧ KV (kvs.map fun p => ((Sum.inr p.1 : Key), V.int p.2)) vs
/-- a lambda as a value: its name, the cells of the frame that made it -/
def cellS (q : Str) (cl : List (Str × Addr)) : Spec := fun args h F _ => ∃ ds k, args = [.lam ds k ("" : Str) []] ∧ F (.lam ds k q cl) h
def Rdy (X : Cx) : Cn → Spec → Prop
  | .kd x kvs, _ => KdR X.w X.K X.mg x kvs
  | .fn x, S => FnReady X x S
  | .me c m, S => MeReady X c m S
  | .mk c, S => NwReady X c S
  | .cl c fs, _ => ClReady X c fs
  | .er c, _ => ErReady X c
  | .xs rs ts, _ => XsReady X rs ts
  | .ei c f, _ => EiReady X c f
  | .xf c f, _ => XfReady X c f
  | .gd, _ => X.A.guards = some []
  | .tk, _ => True
  | .sa _, _ => True
  | .no, _ => True
  | .ce, S => S = cellS (X.env.qual ++ "<lambda>") X.env.cells
  | .gs, _ => X.A.guards = some [] ∧ ∃ (o : Obj) (es : Array DictEntry) (ep : Nat), X.base.get? sysModules = some o ∧ o.data = .dict es ep
  | .ac, S => ∀ (pn : List (Addr × Obj)) (xe : Value → Shared → Prop) (W : WX) (a : Str) (p1 p2 : Pos), Takes (X.tr pn xe) W → X.N[0]? = some a → PE (X.tr pn xe) (.Call (.Name a p1) [] [] p2) (LE (X.tr pn xe) W (fun σz h F E => ∃ y, σz[0]? = some (some y) ∧ S [y] h F E))
/-- isinstance(e, c) of a kept exception -/
theorem ze_isx {c : Str} {rs ts : List Str} {p2 : Pos} (xr : XsReady X rs ts) (hr : rs ≠ []) (hc : c ∈ ts) (hg : Gl X "isinstance") (hm : X.mg "isinstance" = none) (hg2 : Gl X c) (hd : (c == ("__debug__" : Str)) = false) (ha : PE X a (LE X W (wE Γ x))) (hs : ∀ r, starEach (a :: r) X.env = (false, eval a X.env) :: starEach r X.env) :
    PE X (.Call (.Name "isinstance" p) [a, .Name c p2] [] pos) (LE X W (wE Γ (.isx x rs c))) := by
  obtain ⟨cv, hcv, v, rv, only⟩ : ∃ cv, XnIs X c cv ∧ ∃ v : V, RelV v cv ∧ ∀ u, RelV v u → u = cv := by
    cases rs with
    | nil => exact absurd rfl hr
    | cons a rs =>
      obtain ⟨C, _, _, q⟩ := xr a List.mem_cons_self
      obtain ⟨cv, q, _, k⟩ := q c hc
      exact ⟨cv, q, Zh.kit_val k⟩
  have uniq : ∀ cv', XnIs X c cv' → cv' = cv := fun cv' q => by
    rcases q with q | ⟨q1, q2, _⟩ <;> rcases hcv with z | ⟨z1, z2, _⟩
    · rw [q] at z; exact Option.some.inj z
    · rw [q] at z1; cases z1
    · rw [z] at q1; cases q1
    · rw [q2] at z2; exact Option.some.inj z2
  have hb : PE X (.Name c p2) (tC v) := by
    rcases hcv with z | ⟨z1, z2, z3⟩
    · exact pe_glob hg2 z rv hd
    · exact pe_bltn hg2 z1 z2 rv z3 hd
  have hpa : PA X [a, .Name c p2] (tCons (LE X W (wE Γ x)) (tCons (tC v) tNil)) := pa_cons ha (pa_cons hb pa_nil rfl) (hs _)
  refine pe_imp (pe_callB Zh.call_isX hg hm (by decide +kernel) hpa (by decide) (by decide) (hs _) rfl) fun σ H Q ⟨ρ, σz, h, F, E, s, kq, kx, w⟩ => ?_
  unfold wE at w
  refine ⟨ρ, σz, h, _, E, s, fun y h1 ρ1 H1 u n1 r1 p1 w1 => ?_, kx, w⟩
  cases y with
  | exc c' ns vs =>
    obtain ⟨hx, w2⟩ := (show c' ∈ rs ∧ F (.bl (subX c' c)) h1 from w1)
    obtain ⟨a', C', d, gs, rfl, hn', ek, ps, hl, alt⟩ := p1
    obtain ⟨C, hn, T, facts⟩ := xr c' hx
    rw [hn] at hn'
    cases hn'
    obtain ⟨cv', q, _, k⟩ := facts c hc
    rw [uniq _ q] at k
    refine ⟨a', _, d, v, cv, _, rfl, ek, ?_, T, only, k, (kq.nx n1).bl r1 w2⟩
    rcases alt with ⟨_, ed⟩ | ⟨dd, ed, exd⟩
    · exact .inl ed
    · exact .inr ⟨dd, _, ed, exd⟩
  | _ => exact False.elim w1
end
section
variable {P : Program} {w : World} {K : PySem.W.Frag} {mg : Str → Option Value} {base : Heap}
/-- a def that may be called with k rooms -/
def FnR (P : Program) (w : World) (K : PySem.W.Frag) (mg : Str → Option Value) (base : Heap) (k : Nat) (x : Str) (S : Spec) : Prop := ∃ (f : Addr) (fd : FuncData) (ps : List Str) (j : Nat) (sp : Sp) (ds : List Value) (dvs : List V), mg x = some (.ref f) ∧ PySem.W.keepIn K (.ref f) = true ∧
  FnOk P w K mg base (L2.CX P w) j f fd ps sp ∧ j ≤ k ∧ Binds K fd ps ds ∧ Vals dvs ds ∧ ∀ vs H Q E, lift K mg S vs H Q E → sp (vs ++ dvs) H Q E
/-- a method of a class -/
def MeR (P : Program) (w : World) (K : PySem.W.Frag) (mg : Str → Option Value) (base : Heap) (k : Nat) (c m : Str) (S : Spec) : Prop := ∃ (C f : Addr) (fd : FuncData) (ps : List Str) (j : Nat) (sp : Sp) (ds : List Value) (dvs : List V), mg c = some (.ref C) ∧ Cls K C ∧ Meth K C m f ∧
  FnOk P w K mg base (L2.CX P w) j f fd ps sp ∧ j ≤ k ∧ Binds K fd ps ds ∧ Vals dvs ds ∧ ∀ vs H Q E, lift K mg S vs H Q E → sp (vs ++ dvs) H Q E
/-- a class called: its __init__ -/
def NwR (P : Program) (w : World) (K : PySem.W.Frag) (mg : Str → Option Value) (base : Heap) (k : Nat) (c : Str) (S : Spec) : Prop := ∃ (C f : Addr) (fd : FuncData) (ps : List Str) (j : Nat) (sp : Sp) (ds : List Value) (dvs : List V), mg c = some (.ref C) ∧ Mk K C f ∧
  FnOk P w K mg base (L2.CX P w) j f fd ps sp ∧ j + 1 ≤ k ∧ Binds K fd ps ds ∧ Vals dvs ds ∧ ∀ vs H Q E, lift K mg S vs H Q E → sp (vs ++ dvs) H Q E
/-- a def that leans on nothing being shown -/
def GnR (P : Program) (w : World) (K : PySem.W.Frag) (mg : Str → Option Value) (base : Heap) (k : Nat) (x : Str) (S : Spec) : Prop := ∃ (f : Addr) (fd : FuncData) (ps : List Str) (j : Nat) (sp : Sp) (ds : List Value) (dvs : List V), mg x = some (.ref f) ∧ PySem.W.keepIn K (.ref f) = true ∧
  Zh.GOk P w K mg base (L2.CX P w) j f fd ps sp ∧ j ≤ k ∧ Binds K fd ps ds ∧ Vals dvs ds ∧ ∀ vs H Q E, lift K mg S vs H Q E → sp (vs ++ dvs) H Q E
theorem GnR.mono {k k' : Nat} {x : Str} {S : Spec} (h : GnR P w K mg base k x S) (q : k ≤ k') : GnR P w K mg base k' x S := by
  obtain ⟨f, fd, ps, j, sp, ds, dvs, h1, h2, h3, h4, h5⟩ := h
  exact ⟨f, fd, ps, j, sp, ds, dvs, h1, h2, h3, by omega, h5⟩
def ClR (K : PySem.W.Frag) (mg : Str → Option Value) (c : Str) (fs : List Str) : Prop := ∃ C : Addr, mg c = some (.ref C) ∧ Cls K C ∧ ∀ f ∈ fs, NoAttr K C f
def ErR (K : PySem.W.Frag) (mg : Str → Option Value) (c : Str) : Prop := ∃ C : Addr, mg c = some (.ref C) ∧ PySem.W.nsIn K mainGlobals c = some (some (.ref C)) ∧ PySem.W.excIn K C PySem.HandSPX.veTail "ValueError.__new__" = true ∧ PySem.W.keepIn K (.ref C) = true ∧
  PySem.W.subIn K (.ref C) (.type "BaseException") = some true ∧ PySem.W.typeIn K (.ref C) = some (.type "type")
def XnR (mg : Str → Option Value) (c : Str) (cv : Value) : Prop := mg c = some cv ∨ (mg c = none ∧ bootBuiltins c = some cv ∧ c ≠ "__name__")
def XsR (K : PySem.W.Frag) (mg : Str → Option Value) (rs ts : List Str) : Prop := ∀ a ∈ rs, ∃ C : Addr, PySem.W.nsIn K mainGlobals a = some (some (.ref C)) ∧ L2.ExcC K C ∧
  ∀ c ∈ ts, ∃ cv : Value, XnR mg c cv ∧ PySem.W.exmOne K (.ref C) cv = some (subX a c) ∧ PySem.W.kitOne K (.ref C) cv = some (subX a c)
def EiR (P : Program) (w : World) (K : PySem.W.Frag) (mg : Str → Option Value) (base : Heap) (k : Nat) (c f : Str) : Prop := ∃ (C fI : Addr) (fd : FuncData) (ps : List Str) (j : Nat), mg c = some (.ref C) ∧ PySem.W.nsIn K mainGlobals c = some (some (.ref C)) ∧ OexC K C ∧ PySem.W.findIn K (.ref C) f = some none ∧
  PySem.W.findIn K (.ref C) "__init__" = some (some (.ref fI)) ∧ PySem.W.typeIn K (.ref fI) = some (.type "function") ∧ FnOk P w K mg base (L2.CX P w) j fI fd ps (Zh.spInit K f) ∧ j + 1 ≤ k ∧ Binds K fd ps []
def XfR (K : PySem.W.Frag) (c f : Str) : Prop := ∃ C : Addr, PySem.W.nsIn K mainGlobals c = some (some (.ref C)) ∧ L2.XfC K C ∧ PySem.W.findIn K (.ref C) f = some none
/-- what a lambda's body does, wherever it is run: on what it got hold of -/
def DeedOk (K : PySem.W.Frag) (mg : Str → Option Value) (h0 : Hep) (xs : List PV) (vs : List V) (SF : Spec) (F0 : KQ) (tl : XK → Hp → VK → Prop) : Prop :=
  ∀ (ρ : List Addr) (H : Hp) (E : XK) (Q : VK), HR K mg ρ h0 H → Reps K ρ H xs vs →
    (∀ (y : PV) (h' : Hep) (ρ' : List Addr) (H' : Hp) (v : V), Nx ρ H ρ' H' → HR K mg ρ' h' H' → Rep K ρ' H' y v → SF [.bl true, y] h' F0 noX → Q v H') →
    (∀ (x : XV) (h' : Hep) (ρ' : List Addr) (H' : Hp) (cls : Value) (d : Option Addr), Nx ρ H ρ' H' → HR K mg ρ' h' H' → XR K mg ρ' H' x cls d → SF [.bl false, keptV x] h' F0 noX → E cls d H') → tl E H Q
/-- a def that calls the lambda that it gets, once; SF: what it does behind -/
def SaR (P : Program) (w : World) (K : PySem.W.Frag) (mg : Str → Option Value) (base : Heap) (k : Nat) (x : Str) (SF : Spec) : Prop :=
  ∃ (g : Addr) (pg : Arguments) (bg : List Stmt) (sg : Scope) (dV kV doc pm cdv ct oc : Value) (an od : Option Addr) (osl : Array (Option Value)) (Ng : List Str) (a : Str),
    mg x = some (.ref g) ∧ PySem.W.keepIn K (.ref g) = true ∧ K.lookup g = some ⟨oc, od, .func (PySem.W.fnOf x x pg bg sg dV kV doc pm an cdv ct), osl⟩ ∧ PySem.W.codeIn K cdv x = true ∧ Binds K (PySem.W.fnOf x x pg bg sg dV kV doc pm an cdv ct) [a] [] ∧ FnScope Ng [a] sg ∧ Ng[0]? = some a ∧
    Vis sg a ∧ (a == ("__debug__" : Str)) = false ∧ (a == ("__classdict__" : Str)) = false ∧
    ∀ (A : Around) (outer : List PySem.Env) (s : Shared) (H : Hp) (f c' : Addr) (q : Str) (xs : List PV) (vs : List V) (h0 : Hep) (F0 : KQ) (ρ : List Addr) (Q : VK) (tl : XK → Hp → VK → Prop),
      Room k (A.deeper (envOfC x sg s.heap.objs.size g cdv)) → HR K mg ρ h0 H → Reps K ρ H xs vs → H c' = some (LamX.CodeO c' q) →
      (∀ (r : PV) (h' : Hep) (ρ' : List Addr) (H' : Hp) (v : V), Nx ρ H ρ' H' → HR K mg ρ' h' H' → Rep K ρ' H' r v → F0 r h' → Q v H') → DeedOk K mg h0 xs vs SF F0 tl →
      (∀ (W : WX) (pn : List (Addr × Obj)) (xe : Value → Shared → Prop) (p1 p2 : Pos), Takes ((cxOf (L2.CX P w) P w K mg base Ng x sg g cdv A outer s H (fun _ _ _ => False)).tr pn xe) W →
        PE ((cxOf (L2.CX P w) P w K mg base Ng x sg g cdv A outer s H (fun _ _ _ => False)).tr pn xe) (.Call (.Name a p1) [] [] p2) (fun σZ HZ Q => σZ[0]? = some (some (.ref f)) ∧ HZ c' = some (LamX.CodeO c' q) ∧ tl (fun cls d H' => W cls d σZ H') HZ Q)) →
      ∃ t, PSs (cxOf (L2.CX P w) P w K mg base Ng x sg g cdv A outer s H (fun _ _ _ => False)) bg t ∧ t { nx := fun _ H' => Q .non H', rt := Q } (L2.start Ng [.ref f]) H
def CnR (P : Program) (w : World) (K : PySem.W.Frag) (mg : Str → Option Value) (base : Heap) (k : Nat) : Cn → Spec → Prop
  | .fn x, S => FnR P w K mg base k x S
  | .me c m, S => MeR P w K mg base k c m S
  | .mk c, S => NwR P w K mg base k c S
  | .cl c fs, _ => ClR K mg c fs
  | .er c, _ => ErR K mg c
  | .xs rs ts, _ => XsR K mg rs ts
  | .ei c f, _ => EiR P w K mg base k c f
  | .xf c f, _ => XfR K c f
  | .kd x kvs, _ => KdR w K mg x kvs
  | .gd, _ => False
  | .tk, _ => False
  | .ac, _ => False
  | .gs, _ => False
  | .ce, _ => False
  | .no, _ => True
  | .sa x, S => SaR P w K mg base k x S
/-- the maker's table of code objects -/
def tokSi (i : Nat) (P : Addr) (q : Str) : Spec := fun args h F _ => args = [] ∧ h[i]? = some (.tab P q) ∧ F .non h
abbrev tokS (P : Addr) (q : Str) : Spec := tokSi 0 P q
/-- where a lambda may be made, and what its body may call -/
def LmReady (X : Cx) (nm : List Cn) (Γ : List Spec) (j : Nat) : Prop :=
  ∃ (c P : Addr) (k i0 : Nat), Γ[j]? = some (tokSi i0 P (X.env.qual ++ "<lambda>")) ∧ LamX.TabB X.base X.mg c P ∧ X.env.code = .ref c ∧ Room (k + 3) X.A ∧
    ∀ (i : Nat) (x : Cn), nm[i]? = some x → ∃ S, Γ[i]? = some S ∧ ((x = .tk ∨ x = .gd ∨ x = .ac ∨ x = .gs ∨ x = .ce) ∨ CnR X.prog X.w X.K X.mg X.base k x S)
end
end Z

/-! ZsH: targets, what is walked, comprehensions. -/
namespace Z
open PySem PyProof.Rows L2

/-! ### targets -/
mutual
def slotsT : Tg → List Nat
  | .nm i => [i]
  | .tp ts => slotsTs ts
def slotsTs : List Tg → List Nat
  | [] => []
  | t :: ts => slotsT t ++ slotsTs ts
end
section
variable {X : Cx} {W : WX} {e a b c : Expr} {es : List Expr} {pos p : Pos} {Γ : List Spec} {x y : Ex} {xs : List Ex}
/-- the same but at some slots -/
def But (vs : List Nat) (σ σ' : L2.St) : Prop := σ'.length = σ.length ∧ ∀ j, j ∉ vs → σ'[j]? = σ[j]?
theorem But.refl {vs : List Nat} {σ : L2.St} : But vs σ σ := ⟨rfl, fun _ _ => rfl⟩
theorem But.trans {vs ws : List Nat} {σ σ1 σ2 : L2.St} (h : But vs σ σ1) (k : But ws σ1 σ2) : But (vs ++ ws) σ σ2 :=
  ⟨k.1.trans h.1, fun j hj => (k.2 j fun z => hj (List.mem_append_right _ z)).trans (h.2 j fun z => hj (List.mem_append_left _ z))⟩
def LG (X : Cx) (t : Tg) : TG := fun v σ H Q => ∃ (ρ : List Addr) (σz : Env) (h : Hep) (x : PV), SR X ρ σz h σ H ∧ Rep X.K ρ H x v ∧ ∃ σz', tgt t x σz = some σz' ∧ ∀ σ', SR X ρ σz' h σ' H → But (slotsT t) σ σ' → Q σ' H
def LGs (X : Cx) (ts : List Tg) : TGs := fun vs σ H Q => ∃ (ρ : List Addr) (σz : Env) (h : Hep) (xs : List PV), SR X ρ σz h σ H ∧ Reps X.K ρ H xs vs ∧ ∃ σz', tgts ts xs σz = some σz' ∧ ∀ σ', SR X ρ σz' h σ' H → But (slotsTs ts) σ σ' → Q σ' H
theorem pg_imp {t t' : TG} (h : PG X e t) (k : ∀ v σ H Q, t' v σ H Q → t v σ H Q) : PG X e t' := ⟨fun pins s σ H v u Q I r q => h.run pins s σ H v u Q I r (k _ _ _ _ q)⟩
theorem pgs_imp {t t' : TGs} (h : PGs X es t) (k : ∀ v σ H Q, t' v σ H Q → t v σ H Q) : PGs X es t' := ⟨fun pins s σ H v u Q I r q => h.run pins s σ H v u Q I r (k _ _ _ _ q)⟩
theorem zg_name {i : Nat} {nm : Str} (hN : X.N.Nodup) (hi : X.N[i]? = some nm) (hx : Loc X.env.scope nm) (hf : X.fn nm = true ∨ X.env.scope.names.lookup nm = some .local) : PG X (.Name nm p) (LG X (.nm i)) := by
  refine pg_imp (pg_name hN hi hx hf) fun v σ H Q ⟨ρ, σz, h, y, s, py, σz', e, k⟩ => ?_
  unfold tgt at e
  cases e
  refine k _ (s.set i py) ⟨by rw [List.length_set], fun j hj => ?_⟩
  have hj : j ∉ [i] := hj
  exact List.getElem?_set_ne (fun z => hj (by simp [z]))
theorem zgs_nil : PGs X [] (LGs X []) := pgs_imp pgs_nil fun vs σ H Q ⟨ρ, σz, h, ys, s, ps, σz', e, k⟩ => by
  cases ys with
  | nil =>
    cases ps
    unfold tgts at e
    cases e
    exact ⟨rfl, k σ s .refl⟩
  | cons _ _ => unfold tgts at e; cases e
theorem zgs_cons {t : Tg} {ts : List Tg} (h1 : PG X e (LG X t)) (h2 : PGs X es (LGs X ts)) (hs : (assignEach (e :: es) X.env).map (·.2) = assign e X.env :: (assignEach es X.env).map (·.2)) : PGs X (e :: es) (LGs X (t :: ts)) := by
  refine pgs_imp (pgs_cons h1 h2 hs) fun vs σ H Q ⟨ρ, σz, h, ys, s, ps, σz', e, k⟩ => ?_
  cases ys with
  | nil => unfold tgts at e; cases e
  | cons y ys =>
    obtain ⟨v, r, rfl, py, ps⟩ := ps
    unfold tgts at e
    split at e
    · rename_i σz1 e1
      refine ⟨v, r, rfl, ρ, σz, h, y, s, py, σz1, e1, fun σ1 s1 b1 => ?_⟩
      exact ⟨ρ, σz1, h, ys, s1, ps, σz', e, fun σ2 s2 b2 => k σ2 s2 (b1.trans b2)⟩
    · cases e
theorem zg_tup {ts : List Tg} {k : Nat} (hc : X.calm = true) (h : PGs X es (LGs X ts)) (hn : (assignEach es X.env).length = ts.length) (hst : (assignEach es X.env).findIdx? (·.1) = none) : PG X (.Tuple es k pos) (LG X (.tp ts)) := by
  refine pg_imp (pg_tup hc h hn hst) fun v σ H Q ⟨ρ, σz, h, y, s, py, σz', e, k⟩ => ?_
  have lens : ∀ (ts : List Tg) (ys : List PV) (σz σz' : Env), tgts ts ys σz = some σz' → ys.length = ts.length := by
    intro ts
    induction ts with
    | nil =>
      intro ys σz σz' e
      cases ys with
      | nil => rfl
      | cons _ _ => unfold tgts at e; cases e
    | cons t ts ih =>
      intro ys σz σz' e
      cases ys with
      | nil => unfold tgts at e; cases e
      | cons y ys =>
        unfold tgts at e
        split at e
        · rw [List.length_cons, List.length_cons, ih ys _ _ e]
        · cases e
  cases y with
  | tup ys =>
    obtain ⟨a, vs, rfl, t, ps⟩ := py
    have e' : tgts ts ys σz = some σz' := e
    exact ⟨a, vs, rfl, t.sq, by rw [← ps.len]; exact lens ts ys σz σz' e', ρ, σz, h, ys, s, ps, σz', e', k⟩
  | itp ys =>
    obtain ⟨a, vs, rfl, t, ps⟩ := py
    have e' : tgts ts ys σz = some σz' := e
    exact ⟨a, vs, rfl, t.sq, by rw [← ps.len]; exact lens ts ys σz σz' e', ρ, σz, h, ys, s, ps, σz', e', k⟩
  | _ => cases e

/-! ### what is walked -/
/-- how a walk tells its items, from (ρ, H) on -/
def ItOk (X : Cx) (ρ : List Addr) (H : Hp) (J : It) (items : List PV) (g : Grd) : Prop :=
  ∀ (ρ' : List Addr) (h' : Hep) (H' : Hp), Nx ρ H ρ' H' → HR X.K X.mg ρ' h' H' → grdOk h' g → ∀ i : Nat, (items.length = i → J.stop i H') ∧
    ∀ it, items[i]? = some it → J.go i H' ∧ ∀ (v : V) (H2 : Hp), J.yld i H' v H2 → Nx ρ' H' ρ' H2 ∧ HR X.K X.mg ρ' h' H2 ∧ Rep X.K ρ' H2 it v
def LI (X : Cx) (W : WX) (w : Env → Hep → (List PV → Grd → Hep → Prop) → KX → Prop) : TI := fun σ H R => ∃ (ρ : List Addr) (σz : Env) (h : Hep) (F : List PV → Grd → Hep → Prop) (E : KX), SR X ρ σz h σ H ∧
  (∀ (items : List PV) (g : Grd) (h1 : Hep) (ρ1 : List Addr) (H1 : Hp) (J : It), Nx ρ H ρ1 H1 → HR X.K X.mg ρ1 h1 H1 → ItOk X ρ1 H1 J items g → F items g h1 → R J H1) ∧ KXok X W σ ρ H E ∧ w σz h F E
theorem pi_imp {tg it : Expr} {t t' : TI} (h : PI X tg it t) (k : ∀ σ H R, t' σ H R → t σ H R) : PI X tg it t' := ⟨fun pins s σ H R I q => h.run pins s σ H R I (k _ _ _ q)⟩
theorem HR.same (r : ∀ {ρ h H}, HR X.K X.mg ρ h H → True) : True := trivial
theorem itok_tup {ρ : List Addr} {H : Hp} {a : Addr} {ys : List PV} {vs : List V} {h : Hep} (r : HR X.K X.mg ρ h H) (t : TL X.K H a vs) (ps : Reps X.K ρ H ys vs) : ItOk X ρ H (Itt X.K a) ys [] := by
  intro ρ' h' H' n r' _ i
  have t' := t.nx r n
  have ps' := ps.nx r n
  refine ⟨fun hi => ⟨vs, t'.sq, by rw [← ps'.len]; exact Nat.le_of_eq hi⟩, fun it e => ?_⟩
  obtain ⟨v, ev, pv⟩ := ps'.get e
  refine ⟨⟨vs, v, t'.sq, ev⟩, fun u H2 y => ?_⟩
  obtain ⟨rfl, y⟩ := y
  have e2 := y vs t'.sq
  rw [ev] at e2
  cases e2
  exact ⟨.refl, r', pv⟩
theorem itok_itp {ρ : List Addr} {H : Hp} {a : Addr} {ys : List PV} {vs : List V} {h : Hep} (r : HR X.K X.mg ρ h H) (t : Zh.Whole X.K H a vs) (ps : Reps X.K ρ H ys vs) : ItOk X ρ H (Itt X.K a) ys [] := by
  intro ρ' h' H' n r' _ i
  have t' := wh_nx t r n
  have ps' := ps.nx r n
  refine ⟨fun hi => ⟨vs, t'.sq, by rw [← ps'.len]; exact Nat.le_of_eq hi⟩, fun it e => ?_⟩
  obtain ⟨v, ev, pv⟩ := ps'.get e
  refine ⟨⟨vs, v, t'.sq, ev⟩, fun u H2 y => ?_⟩
  obtain ⟨rfl, y⟩ := y
  have e2 := y vs t'.sq
  rw [ev] at e2
  cases e2
  exact ⟨.refl, r', pv⟩
theorem itok_ils {ρ : List Addr} {H : Hp} {a : Addr} {ys : List PV} {vs : List V} {h : Hep} (r : HR X.K X.mg ρ h H) (t : IL X.K H a vs) (ps : Reps X.K ρ H ys vs) : ItOk X ρ H (Itl X.K a) ys [] := by
  intro ρ' h' H' n r' _ i
  have t' := t.nx r n
  have ps' := ps.nx r n
  refine ⟨fun hi => ⟨vs, t'.sq, by rw [← ps'.len]; exact Nat.le_of_eq hi⟩, fun it e => ?_⟩
  obtain ⟨v, ev, pv⟩ := ps'.get e
  refine ⟨⟨vs, v, t'.sq, ev⟩, fun u H2 y => ?_⟩
  obtain ⟨rfl, y⟩ := y
  have e2 := y vs t'.sq
  rw [ev] at e2
  cases e2
  exact ⟨.refl, r', pv⟩
theorem itok_lst {ρ : List Addr} {H : Hp} {a : Addr} {i : Nat} {ys : List PV} (e1 : ρ[i]? = some a) : ItOk X ρ H (Itl X.K a) ys [(i, .lst ys)] := by
  intro ρ' h' H' n r' g j
  obtain ⟨b, vs, e2, k, ps⟩ := r'.lst g.1
  have e1 := n.at e1
  rw [e1] at e2; cases e2
  refine ⟨fun hi => ⟨vs, SqL.of k, by rw [← ps.len]; exact Nat.le_of_eq hi⟩, fun it e => ?_⟩
  obtain ⟨v, ev, pv⟩ := ps.get e
  refine ⟨⟨vs, v, SqL.of k, ev⟩, fun u H2 y => ?_⟩
  obtain ⟨rfl, y⟩ := y
  have e2 := y vs (SqL.of k)
  rw [ev] at e2
  cases e2
  exact ⟨.refl, r', pv⟩
theorem signs_get {z : Str} {i : Nat} {it : PV} (e : (signsOf z)[i]? = some it) : ∃ c, z.cps[i]? = some c ∧ it = .str ⟨#[c]⟩ := by
  unfold signsOf at e
  rw [List.getElem?_map, Array.getElem?_toList] at e
  cases g : z.cps[i]? with
  | none => rw [g] at e; cases e
  | some c => rw [g] at e; cases e; exact ⟨c, rfl, rfl⟩
theorem itok_str {ρ : List Addr} {H : Hp} {z : Str} : ItOk X ρ H (Its z) (signsOf z) [] := by
  intro ρ' h' H' n r' _ i
  refine ⟨fun hi => ?_, fun it e => ?_⟩
  · have : z.cps.size ≤ i := by have hi := Nat.le_of_eq hi; unfold signsOf at hi; simpa using hi
    exact this
  · obtain ⟨c, g, rfl⟩ := signs_get e
    refine ⟨(Array.getElem?_eq_some_iff.mp g).1, fun v H2 y => ?_⟩
    obtain ⟨rfl, c', g', rfl⟩ := y
    rw [g] at g'
    cases g'
    exact ⟨.refl, r', rfl⟩
/-- any list, any tuple, any text -/
theorem zi_walk {tg : Expr} (he : PE X e (LE X W (wE Γ x))) : PI X tg e (LI X W (wI Γ (.wlk x))) := by
  refine ⟨fun pins s σ H R I ⟨ρ, σz, h, F, E, sr, kq, kx, w⟩ => ?_⟩
  have w : wE Γ x σz h (fun x h1 => walkW h1 x fun xs g => F xs g h1) E := w
  refine thn (he.run pins s σ H (fun v H1 => (∃ z, v = .str z ∧ R (Its z) H1) ∨ ∃ a, v = .ref a ∧ ((∃ vs, SqL X.K H1 a vs ∧ R (Itl X.K a) H1) ∨ ∃ vs, SqT X.K H1 a vs ∧ R (Itt X.K a) H1)) I ⟨ρ, σz, h, _, E, sr, fun y h1 ρ1 H1 v n1 r1 p1 w1 => ?_, kx, w⟩) fun u s1 ⟨v, H1, I1, rv, q0⟩ => ?_
  · cases y with
    | str z =>
      obtain rfl := p1
      exact .inl ⟨z, rfl, kq (signsOf z) [] h1 ρ1 H1 _ n1 r1 itok_str w1⟩
    | tup ys =>
      obtain ⟨a, vs, rfl, t, ps⟩ := p1
      exact .inr ⟨a, rfl, .inr ⟨vs, t.sq, kq ys [] h1 ρ1 H1 _ n1 r1 (itok_tup r1 t ps) w1⟩⟩
    | itp ys =>
      obtain ⟨a, vs, rfl, t, ps⟩ := p1
      exact .inr ⟨a, rfl, .inr ⟨vs, t.sq, kq ys [] h1 ρ1 H1 _ n1 r1 (itok_itp r1 t ps) w1⟩⟩
    | ils ys =>
      obtain ⟨a, vs, rfl, t, ps⟩ := p1
      exact .inr ⟨a, rfl, .inl ⟨vs, t.sq, kq ys [] h1 ρ1 H1 _ n1 r1 (itok_ils r1 t ps) w1⟩⟩
    | ref i =>
      obtain ⟨a, vs, ys, rfl, e1, k, e, ps, w1⟩ := listed r1 p1 (show getL h1 i fun xs => F xs [(i, .lst xs)] h1 from w1)
      exact .inr ⟨a, rfl, .inl ⟨vs, SqL.of k, kq ys [(i, .lst ys)] h1 ρ1 H1 _ n1 r1 (itok_lst e1) w1⟩⟩
    | _ => exact False.elim w1
  · rcases q0 with ⟨z, rfl, q⟩ | ⟨a, ev, q⟩
    · obtain ⟨t, rfl⟩ := rv
      cases ha : z.cps.all (· < 128)
      · exact wpAny_pyIter_wide ha (pi_one (tk := s1.toks) I1 _ (turn_str s1.heap.objs.size z t "str_iterator" (.inr rfl)) ⟨_, Heap.get?_push_size _ rfl, rfl, rfl⟩ q)
      · exact wpAny_pyIter_ascii ha (pi_one (tk := s1.toks) I1 _ (turn_str s1.heap.objs.size z t "str_ascii_iterator" (.inl rfl)) ⟨_, Heap.get?_push_size _ rfl, rfl, rfl⟩ q)
    subst ev
    rcases q with ⟨vs, hq, q⟩ | ⟨vs, hq, q⟩
    · have hx : PE X e (fun σ' H' Q => σ' = σ ∧ H' = H1 ∧ False) := ⟨fun _ _ _ _ _ _ z => z.2.2.elim⟩
      cases rv
      obtain ⟨its, rvs, pl, hz⟩ := I1.list hq
      refine wpAny_pyIter_list pl.isList ?_
      refine ⟨s1.heap.objs.size, [s1.heap.objs.size], _, _, H1, rfl, I1.kept (t' := s1.toks) fun b o e => Heap.get?_push_of_some _ e, turn_list a _, ⟨_, Heap.get?_push_size _ rfl, rfl, rfl⟩, fun b hb => ?_, q⟩
      rw [show b = s1.heap.objs.size by simpa using hb]
      exact I1.fpOk (Nat.le_refl _) (I1.hok.fresh (Nat.le_refl _))
    · cases rv
      obtain ⟨its, rvs, pl, hz⟩ := I1.tuple hq
      refine wpAny_pyIter_tuple (show s1.heap.IsTuple a its.toArray from pl) ?_
      refine ⟨s1.heap.objs.size, [s1.heap.objs.size], _, _, H1, rfl, I1.kept (t' := s1.toks) fun b o e => Heap.get?_push_of_some _ e, turn_tuple a _, ⟨_, Heap.get?_push_size _ rfl, rfl, rfl⟩, fun b hb => ?_, q⟩
      rw [show b = s1.heap.objs.size by simpa using hb]
      exact I1.fpOk (Nat.le_refl _) (I1.hok.fresh (Nat.le_refl _))
theorem itok_rng {ρ : List Addr} {H : Hp} {lo : Int} {n : Nat} : ItOk X ρ H (Itr lo n) (rngL lo n) [] := by
  intro ρ' h' H' nx r' _ i
  have hl : (rngL lo n).length = n := by unfold rngL; rw [List.length_map, List.length_range]
  refine ⟨fun hi => by rw [hl] at hi; exact Nat.le_of_eq hi, fun it e => ?_⟩
  have hi : i < n := by rw [← hl]; exact (List.getElem?_eq_some_iff.mp e).1
  refine ⟨hi, fun v H2 y => ?_⟩
  obtain ⟨rfl, rfl⟩ := y
  unfold rngL at e
  rw [List.getElem?_map, List.getElem?_range hi] at e
  cases e
  exact ⟨.refl, r', rfl⟩
theorem zi_rng1 {tg : Expr} (hg : Gl X "range") (hm : X.mg "range" = none) (ha : PE X a (LE X W (wE Γ x))) (hs : starEach [a] X.env = [(false, eval a X.env)]) : PI X tg (.Call (.Name "range" p) [a] [] pos) (LI X W (wI Γ (.rng1 x))) := by
  refine pi_imp (pi_range1 hg hm (pa_cons ha pa_nil hs) hs) fun σ H R ⟨ρ, σz, h, F, E, sr, kq, kx, w⟩ => ?_
  unfold wI at w
  refine ⟨ρ, σz, h, _, E, sr, fun y h1 ρ1 H1 v n1 r1 p1 w1 => ?_, kx, w⟩
  split at w1
  · rename_i j
    obtain rfl := p1
    obtain ⟨z1, z2, w1⟩ := w1
    exact ⟨j, rfl, z1, z2, kq _ _ _ _ _ _ n1 r1 itok_rng w1⟩
  · exact w1.elim
/-- enumerate of a list -/
theorem enumL_get : ∀ (ys : List PV) (k i : Nat), (enumL k ys)[i]? = (ys[i]?).map fun y => PV.tup [.int ((k + i : Nat) : Int), y]
  | [], k, i => by simp [enumL]
  | y :: r, k, 0 => by simp [enumL]
  | y :: r, k, i + 1 => by
    show (enumL (k + 1) r)[i]? = _
    rw [enumL_get r (k + 1) i, show k + 1 + i = k + (i + 1) by omega]
    rfl
theorem enumL_len : ∀ (ys : List PV) (k : Nat), (enumL k ys).length = ys.length
  | [], _ => rfl
  | y :: r, k => by show (enumL (k + 1) r).length + 1 = _; rw [enumL_len r, List.length_cons]
/-- a new pair for a turn -/
theorem pair_turn {ρ : List Addr} {h : Hep} {H : Hp} (r : HR X.K X.mg ρ h H) {T : Addr} (hT : H T = none) {ys : List PV} {vs : List V} (ps : Reps X.K ρ H ys vs) : Nx ρ H ρ (upd H T (.tup vs)) ∧ HR X.K X.mg ρ h (upd H T (.tup vs)) ∧ Rep X.K ρ (upd H T (.tup vs)) (.tup ys) (.ref T) := by
  obtain ⟨r1, n1⟩ := r.tupl hT (.tup vs)
  exact ⟨n1, r1, T, vs, rfl, upd_same, ps.nx r n1⟩
theorem itok_enum {ρ : List Addr} {H : Hp} {t : Bool} {a : Addr} {ys : List PV} {g : Grd} (all : ∀ (ρ' : List Addr) (h' : Hep) (H' : Hp), Nx ρ H ρ' H' → HR X.K X.mg ρ' h' H' → grdOk h' g → ∃ vs, Zh.SqB t X.K H' a vs ∧ Reps X.K ρ' H' ys vs) : ItOk X ρ H (Zh.IteB t X.K a) (enumL 0 ys) g := by
  intro ρ' h' H' n r' gg i
  obtain ⟨vs, sq, ps⟩ := all ρ' h' H' n r' gg
  refine ⟨fun hi => ⟨vs, sq, by rw [← ps.len, ← enumL_len ys 0]; exact hi⟩, fun it e => ?_⟩
  rw [enumL_get] at e
  cases ey : ys[i]? with
  | none => rw [ey] at e; cases e
  | some y =>
    rw [ey] at e
    cases e
    obtain ⟨v, ev, pv⟩ := ps.get ey
    refine ⟨⟨vs, v, sq, ev⟩, fun u H2 q => ?_⟩
    obtain ⟨T, z, rfl, hT, rfl, q⟩ := q
    have e2 := q vs sq
    rw [ev] at e2
    cases e2
    refine pair_turn r' hT ⟨_, _, rfl, ?_, v, [], rfl, pv, rfl⟩
    show V.int (i : Int) = V.int ((0 + i : Nat) : Int)
    rw [Nat.zero_add]
/-- a list or a tuple that is walked -/
theorem walk_seq {ρ : List Addr} {h : Hep} {H : Hp} {x : PV} {v : V} {F : List PV → Grd → Prop} (r : HR X.K X.mg ρ h H) (p : Rep X.K ρ H x v) {G : List PV → Prop} (l : seqW h x G) (hG : ∀ xs, G xs → walkW h x fun _ g => F xs g) :
    ∃ (t : Bool) (a : Addr) (vs : List V) (xs : List PV) (g : Grd), v = .ref a ∧ Zh.SqB t X.K H a vs ∧ F xs g ∧ ∀ (ρ' : List Addr) (h' : Hep) (H' : Hp), Nx ρ H ρ' H' → HR X.K X.mg ρ' h' H' → grdOk h' g → ∃ vs, Zh.SqB t X.K H' a vs ∧ Reps X.K ρ' H' xs vs := by
  cases x with
  | ils ys =>
    obtain ⟨a, vs, rfl, t, ps⟩ := p
    exact ⟨false, a, vs, ys, [], rfl, t.sq, hG ys l, fun ρ' h' H' n r' g => ⟨vs, (t.nx r n).sq, ps.nx r n⟩⟩
  | tup ys =>
    obtain ⟨a, vs, rfl, t, ps⟩ := p
    exact ⟨true, a, vs, ys, [], rfl, t.sq, hG ys l, fun ρ' h' H' n r' g => ⟨vs, (t.nx r n).sq, ps.nx r n⟩⟩
  | itp ys =>
    obtain ⟨a, vs, rfl, t, ps⟩ := p
    exact ⟨true, a, vs, ys, [], rfl, t.sq, hG ys l, fun ρ' h' H' n r' g => ⟨vs, (wh_nx t r n).sq, ps.nx r n⟩⟩
  | ref i =>
    obtain ⟨a, vs, ys, rfl, e1, k, e, ps, l⟩ := listed r p (show getL h i G from l)
    obtain ⟨ys', e', w⟩ := getL_some (show getL h i _ from hG ys l)
    rw [e] at e'
    cases e'
    refine ⟨false, a, vs, ys, [(i, .lst ys)], rfl, SqL.of k, w, fun ρ' h' H' n r' g => ?_⟩
    obtain ⟨b, vs', e2, k', ps'⟩ := r'.lst g.1
    rw [n.at e1] at e2; cases e2
    exact ⟨vs', SqL.of k', ps'⟩
  | _ => exact False.elim l
theorem zi_enum {elts : List Expr} {kk : Nat} {tpos : Pos} (hg : Gl X "enumerate") (hm : X.mg "enumerate" = none) (ha : PE X a (LE X W (wE Γ x))) (hs : starEach [a] X.env = [(false, eval a X.env)]) : PI X (.Tuple elts kk tpos) (.Call (.Name "enumerate" p) [a] [] pos) (LI X W (wI Γ (.enum x))) := by
  refine pi_imp (Zh.pi_enumB hg hm (pa_cons ha pa_nil hs) hs) fun σ H R ⟨ρ, σz, h, F, E, sr, kq, kx, w⟩ => ?_
  unfold wI at w
  refine ⟨ρ, σz, h, _, E, sr, fun y h1 ρ1 H1 v n1 r1 p1 w1 => ?_, kx, w⟩
  obtain ⟨t, a, vs, xs, g, rfl, sq, w2, all⟩ := walk_seq (F := fun xs g => F (enumL 0 xs) g h1) r1 p1 (show seqW h1 y _ from w1) fun xs q => q
  exact ⟨t, a, vs, rfl, sq, kq _ g h1 ρ1 H1 _ n1 r1 (itok_enum all) w2⟩
/-! ### zip of two lists -/
end
end Z

/-! ZsI: comprehensions. -/
namespace Z
open PySem PyProof.Rows L2
section
variable {X : Cx} {W : WX} {e a b c : Expr} {es : List Expr} {pos p : Pos} {Γ : List Spec} {x y : Ex} {xs : List Ex}
variable {K : PySem.W.Frag} {mg : Str → Option Value} {ρ ρ' : List Addr} {h : Hep} {H H' : Hp}

/-! ### a list that isn't ours yet -/
theorem stay_off {D : Addr} {vs ws : List V} (e : H D = some (.lst vs)) : Stay K ρ H ρ (upd H D (.lst ws)) := by
  refine ⟨fun a us t => ?_, fun a us t => ?_, fun a us t => ?_, fun a cls d t => ?_, fun a fs t => ?_, fun c q t => ?_, fun f ob t => ?_, fun i a q => q⟩
  · have n : a ≠ D := ne_of (o := .tup us) (u := .lst vs) t e (by intro z; cases z)
    show upd H D (.lst ws) a = _
    rw [upd_ne n]
    exact t
  · rcases t with ⟨o, t⟩ | t
    · have n : a ≠ D := ne_of (o := .frz o (.lst us)) (u := .lst vs) t e (by intro z; cases z)
      refine .inl ⟨o, ?_⟩
      rw [upd_ne n]
      exact t
    · exact .inr t
  · rcases t with ⟨o, d, t⟩ | t
    · have n : a ≠ D := ne_of (o := .frz o (.tup us)) (u := .lst vs) t e (by intro z; cases z)
      refine .inl ⟨o, d, ?_⟩
      rw [upd_ne n]
      exact t
    · exact .inr t
  · have n : a ≠ D := ne_of (o := Zh.KeptX cls d a) (u := .lst vs) t e (by intro z; have z' : HO.ext _ = HO.lst vs := z; cases z')
    rw [upd_ne n]
    exact t
  · have n : a ≠ D := ne_of (o := .xd fs) (u := .lst vs) t e (by intro z; cases z)
    rw [upd_ne n]
    exact t
  · have n : c ≠ D := ne_of (o := LamX.CodeO c q) (u := .lst vs) t e (by intro z; have z' : HO.ext _ = HO.lst vs := z; cases z')
    rw [upd_ne n]
    exact t
  · have n : f ≠ D := ne_of (o := LamO f ob) (u := .lst vs) t e (by intro z; have z' : HO.ext _ = HO.lst vs := z; cases z')
    rw [upd_ne n]
    exact t
theorem HR.off (r : HR K mg ρ h H) {D : Addr} {vs ws : List V} (e : H D = some (.lst vs)) (nD : D ∉ ρ) : HR K mg ρ h (upd H D (.lst ws)) :=
  ⟨r.len, r.nd, fun i o a h1 h2 => RepO.stay (stay_off e) (upd_ne fun z => nD (z ▸ List.mem_of_getElem? h2)) (r.ob i o a h1 h2)⟩
theorem Nx.off (n : Nx ρ H ρ' H') {D : Addr} (e : H D = none) (o : HO) : Nx ρ H ρ' (upd H' D o) :=
  ⟨n.pre, fun a u q z => by rw [upd_ne (ne_of_none q e)]; exact n.fr a u q z, n.nw⟩
theorem HR.adopt (r : HR K mg ρ h H) {D : Addr} {xs : List PV} {vs : List V} (e : H D = some (.lst vs)) (nD : D ∉ ρ) (ps : Reps K ρ H xs vs) : HR K mg (ρ ++ [D]) (h ++ [.lst xs]) H := by
  have st : Stay K ρ H (ρ ++ [D]) H := ⟨fun _ _ t => t, fun _ _ t => t, fun _ _ t => t, fun _ _ _ t => t, fun _ _ t => t, fun _ _ t => t, fun _ _ t => t, fun i a q => by rw [List.getElem?_append_left (List.getElem?_eq_some_iff.mp q).1]; exact q⟩
  refine ⟨by rw [List.length_append, List.length_append, r.len] <;> rfl, ?_, fun i w a h1 h2 => ?_⟩
  · rw [List.nodup_append]
    refine ⟨r.nd, by simp, fun a ha b hb => ?_⟩
    rw [List.mem_singleton.mp hb]
    exact fun z => nD (z ▸ ha)
  · by_cases hi : i < h.length
    · rw [List.getElem?_append_left hi] at h1
      rw [List.getElem?_append_left (by rw [r.len]; exact hi)] at h2
      exact RepO.stay st rfl (r.ob i w a h1 h2)
    · have hl : i < (h ++ [Ob.lst xs]).length := (List.getElem?_eq_some_iff.mp h1).1
      rw [List.length_append] at hl
      have hi' : i = h.length := by simp at hl; omega
      subst hi'
      rw [List.getElem?_append_right (Nat.le_refl _), Nat.sub_self] at h1
      rw [← r.len, List.getElem?_append_right (Nat.le_refl _), Nat.sub_self] at h2
      cases h1
      cases h2
      exact ⟨vs, e, Reps.stay st xs vs ps⟩
theorem wipe_get (σ : L2.St) : ∀ (vs : List Nat) (j : Nat), (L2.wipe σ vs)[j]? = if j ∈ vs ∧ j < σ.length then some none else σ[j]?
  | [], j => by simp [L2.wipe]
  | v :: vs, j => by
    show ((L2.wipe σ vs).set v none)[j]? = _
    have ih := wipe_get σ vs j
    by_cases hj : v = j
    · subst hj
      by_cases hl : v < σ.length
      · rw [List.getElem?_set_self (by rw [L2.wipe_length]; exact hl), if_pos ⟨List.mem_cons_self, hl⟩]
      · rw [List.getElem?_eq_none (by rw [List.length_set, L2.wipe_length]; omega), if_neg (fun z => hl z.2), List.getElem?_eq_none (by omega)]
    · rw [List.getElem?_set_ne hj, ih]
      by_cases hm : j ∈ vs ∧ j < σ.length
      · rw [if_pos hm, if_pos ⟨List.mem_cons_of_mem _ hm.1, hm.2⟩]
      · rw [if_neg hm, if_neg]
        rintro ⟨h1, h2⟩
        rcases List.mem_cons.mp h1 with z | z
        · exact hj z.symm
        · exact hm ⟨z, h2⟩
theorem wipe_but {vs ws : List Nat} {σ σ' : L2.St} (bt : But ws (L2.wipe σ vs) σ') (sub : ∀ j ∈ ws, j ∈ vs) : L2.wipe σ' vs = L2.wipe σ vs := by
  have hl : σ'.length = σ.length := by rw [bt.1, L2.wipe_length]
  refine List.ext_getElem? fun j => ?_
  rw [wipe_get, hl]
  by_cases hm : j ∈ vs ∧ j < σ.length
  · rw [if_pos hm, wipe_get, if_pos hm]
  · rw [if_neg hm]
    by_cases hv : j ∈ vs
    · have hlt : σ.length ≤ j := Nat.le_of_not_lt fun z => hm ⟨hv, z⟩
      rw [List.getElem?_eq_none (by omega), List.getElem?_eq_none (by rw [L2.wipe_length]; omega)]
    · exact bt.2 j fun z => hv (sub j z)

/-! ### comprehensions -/
theorem le_comp {own : List Nat} {t : Tg} {it : Ex} {co : Option Ex} {wi : Env → Hep → (List PV → Grd → Hep → Prop) → KX → Prop} {tt : TT} {te : TE} {el : Ex} (sub : ∀ j ∈ slotsT t, j ∈ own)
    (htt : ∀ σ H Q, LT X (fun _ _ _ _ => False) (fun σz h F _ => wC Γ co σz h F) σ H Q → tt σ H Q) (hte : ∀ σ H Q, LE X (fun _ _ _ _ => False) (wE Γ el) σ H Q → te σ H Q) (σ : L2.St) (H : Hp) (Q : VK)
    (q : LE X W (fun σz h F E => wi σz h (fun items g h1 => wComp g t (fun σ' h' G => wC Γ co σ' h' G) (fun σ' h' G => wE Γ el σ' h' G noX) (wipeZ σz own) items [] h1 fun acc h2 => F (.ref h2.length) (h2 ++ [.lst acc])) E) σ H Q) :
    tLc (LI X W wi) (LG X t) tt te own σ H Q := by
  obtain ⟨ρ, σz, h, F, E, sr, kq, kx, w⟩ := q
  refine ⟨ρ, σz, h, _, E, sr, fun items g h1 ρ1 H1 J n1 r1 ok w1 => ?_, kx, w⟩
  intro D hD
  have nD1 : D ∉ ρ1 := r1.fresh hD
  have hD0 : H D = none := by
    cases z : H D with
    | none => rfl
    | some o =>
      by_cases hm : D ∈ ρ
      · exact absurd (n1.mem hm) nD1
      · rw [n1.fr D o z hm] at hD
        cases hD
  refine ⟨fun i m H' => i + m = items.length ∧ ∃ (ρ' : List Addr) (h' : Hep) (acc : List PV) (av : List V), Nx ρ1 H1 ρ' H' ∧ HR X.K X.mg ρ' h' H' ∧ H' D = some (.lst av) ∧ Reps X.K ρ' H' acc av ∧ D ∉ ρ' ∧ SR X ρ' (wipeZ σz own) h' (L2.wipe σ own) H' ∧
      wComp g t (fun σ' h' G => wC Γ co σ' h' G) (fun σ' h' G => wE Γ el σ' h' G noX) (wipeZ σz own) (items.drop i) acc h' fun acc h2 => F (.ref h2.length) (h2 ++ [.lst acc]), ⟨items.length, by omega, ?_⟩, ?_⟩
  · obtain ⟨r2, n2⟩ := r1.tupl hD (.lst [])
    exact ⟨ρ1, h1, [], [], n2, r2, upd_same, rfl, nD1, ((sr.nx n1 r1).wipe own).nx n2 r2, by rw [List.drop_zero]; exact w1⟩
  · rintro i m H2 ⟨hi, ρ2, h2, acc, av, n2, r2, hD2, pa, nD2, s2, w2⟩
    by_cases hlt : i < items.length
    · refine .inr ?_
      have hd : items.drop i = items[i] :: items.drop (i + 1) := List.drop_eq_getElem_cons hlt
      rw [hd] at w2
      unfold wComp at w2
      obtain ⟨gk, w2⟩ := w2
      obtain ⟨go, yl⟩ := (ok ρ2 h2 H2 n2 r2 gk i).2 items[i] (List.getElem?_eq_getElem hlt)
      refine ⟨go, fun H' => ∃ (ρ' : List Addr) (h' : Hep) (acc : List PV) (av : List V), Nx ρ1 H1 ρ' H' ∧ HR X.K X.mg ρ' h' H' ∧ H' D = some (.lst av) ∧ Reps X.K ρ' H' acc av ∧ D ∉ ρ' ∧ SR X ρ' (wipeZ σz own) h' (L2.wipe σ own) H' ∧
        wComp g t (fun σ' h' G => wC Γ co σ' h' G) (fun σ' h' G => wE Γ el σ' h' G noX) (wipeZ σz own) (items.drop (i + 1)) acc h' fun acc h2 => F (.ref h2.length) (h2 ++ [.lst acc]), fun H' z => ⟨m - 1, by omega, by omega, z⟩, fun v H3 y => ?_⟩
      obtain ⟨n3, r3, pv⟩ := yl v H3 y
      split at w2
      · rename_i σz' et
        refine ⟨ρ2, wipeZ σz own, h2, items[i], s2.nx n3 r3, pv, σz', et, fun σ' s' bt => ⟨wipe_but bt sub, ?_⟩⟩
        refine htt σ' H3 _ ⟨ρ2, σz', h2, fun b h1 => if b = true then wE Γ el σz' h1 (fun y h2 => acc.length < big ∧ wComp g t (fun σ' h' G => wC Γ co σ' h' G) (fun σ' h' G => wE Γ el σ' h' G noX) (wipeZ σz own) (items.drop (i + 1)) (acc ++ [y]) h2 fun acc h2 => F (.ref h2.length) (h2 ++ [.lst acc])) noX else wComp g t (fun σ' h' G => wC Γ co σ' h' G) (fun σ' h' G => wE Γ el σ' h' G noX) (wipeZ σz own) (items.drop (i + 1)) acc h1 fun acc h2 => F (.ref h2.length) (h2 ++ [.lst acc]), noX, s', fun b h4 ρ4 H4 n4 r4 w4 => ?_, KXok.no, w2⟩
        have n34 := n3.trans n4
        have hD4 : H4 D = some (.lst av) := n34.fr D _ hD2 nD2
        have nD4 : D ∉ ρ4 := fun z => by
          have q := n34.nw D z nD2
          rw [hD2] at q
          cases q
        cases b with
        | false =>
          rw [if_neg Bool.false_ne_true] at w4
          exact iteF ⟨ρ4, h4, acc, av, n2.trans n34, r4, hD4, pa.nx r2 n34, nD4, s2.nx n34 r4, w4⟩
        | true =>
          rw [if_pos rfl] at w4
          refine iteT (hte σ' H4 _ ⟨ρ4, σz', h4, _, noX, s'.nx n4 r4, fun z h5 ρ5 H5 u n5 r5 pz w5 => ?_, KXok.no, w4⟩)
          obtain ⟨lz, w5⟩ := w5
          have n35 := n34.trans n5
          have hD5 : H5 D = some (.lst av) := n35.fr D _ hD2 nD2
          have nD5 : D ∉ ρ5 := fun z => by
            have q := n35.nw D z nD2
            rw [hD2] at q
            cases q
          have pa5 := pa.nx r2 n35
          have st := stay_off (K := X.K) (ρ := ρ5) (ws := av ++ [u]) hD5
          have s5 := s2.nx n35 r5
          refine ⟨av, hD5, by rw [← big_eq, ← pa5.len]; exact lz, ρ5, h5, acc ++ [z], av ++ [u], (n2.trans n35).off hD _, r5.off hD5 nD5, upd_same, Reps.stay st _ _ (pa5.app (Reps.one pz)), nD5, ⟨r5.off hD5 nD5, s5.len, fun j x' ej => ?_⟩, w5⟩
          obtain ⟨v', ev', pv'⟩ := s5.sl j x' ej
          exact ⟨v', ev', Rep.stay st _ _ pv'⟩
      · exact w2.elim
    · have hi' : i = items.length := by omega
      subst hi'
      rw [List.drop_length] at w2
      unfold wComp at w2
      obtain ⟨gk, w2⟩ := w2
      refine .inl ⟨(ok ρ2 h2 H2 n2 r2 gk _).1 rfl, ?_⟩
      have n02 := n1.trans n2
      refine kq (.ref h2.length) _ (ρ2 ++ [D]) H2 (.ref D) ⟨?_, n02.fr, fun a ha na => ?_⟩ (r2.adopt hD2 nD2 pa) ⟨D, by rw [← r2.len]; simp, rfl⟩ w2
      · obtain ⟨u, hu⟩ := n02.pre
        exact ⟨u ++ [D], by rw [hu, List.append_assoc]⟩
      · rcases List.mem_append.mp ha with z | z
        · exact n02.nw a z na
        · rw [List.mem_singleton.mp z]; exact hD0
/-! ### a dict walked: it is locked -/
end
end Z

/-! ZsJ: statements. -/
namespace Z
open PySem PyProof.Rows L2

structure DzOk (X : Cx) (W : WX) (ρ : List Addr) (H : Hp) (D : Ends) (Dd : Dz) : Prop where
  nx : ∀ (ρ' : List Addr) (σz' : Env) (h' : Hep) (σ' : L2.St) (H' : Hp), Nx ρ H ρ' H' → SR X ρ' σz' h' σ' H' → Dd.nx σz' h' → D.nx σ' H'
  bk : ∀ (ρ' : List Addr) (σz' : Env) (h' : Hep) (σ' : L2.St) (H' : Hp), Nx ρ H ρ' H' → SR X ρ' σz' h' σ' H' → Dd.bk σz' h' → D.bk σ' H'
  ct : ∀ (ρ' : List Addr) (σz' : Env) (h' : Hep) (σ' : L2.St) (H' : Hp), Nx ρ H ρ' H' → SR X ρ' σz' h' σ' H' → Dd.ct σz' h' → D.ct σ' H'
  rt : KQok X ρ H Dd.rt D.rt
  ex : ∀ (x : XV) (ρ' : List Addr) (σz' : Env) (h' : Hep) (σ' : L2.St) (H' : Hp) (cls : Value) (d : Option Addr), Nx ρ H ρ' H' → SR X ρ' σz' h' σ' H' → XR X.K X.mg ρ' H' x cls d → Dd.ex x σz' h' → W cls d σ' H'
theorem DzOk.go {X : Cx} {W : WX} {ρ ρ' : List Addr} {H H' : Hp} {D : Ends} {Dd : Dz} (k : DzOk X W ρ H D Dd) (n : Nx ρ H ρ' H') : DzOk X W ρ' H' D Dd :=
  ⟨fun a b c d e m => k.nx a b c d e (n.trans m), fun a b c d e m => k.bk a b c d e (n.trans m), fun a b c d e m => k.ct a b c d e (n.trans m), k.rt.nx n, fun a b c d e f g h m => k.ex a b c d e f g h (n.trans m)⟩
theorem DzOk.kx {X : Cx} {W : WX} {ρ : List Addr} {σz : Env} {h : Hep} {σ : L2.St} {H : Hp} {D : Ends} {Dd : Dz} (k : DzOk X W ρ H D Dd) (s : SR X ρ σz h σ H) : KXok X W σ ρ H (fun x h1 => Dd.ex x σz h1) :=
  fun x h' ρ' H' cls d n r xr w => k.ex x ρ' σz h' σ H' cls d n (s.nx n r) xr w
def LS (X : Cx) (W : WX) (w : Env → Hep → Dz → Prop) : TS := fun D σ H => ∃ (ρ : List Addr) (σz : Env) (h : Hep) (Dd : Dz), SR X ρ σz h σ H ∧ DzOk X W ρ H D Dd ∧ w σz h Dd

section
variable {X : Cx} {W : WX} {e a b c : Expr} {es : List Expr} {pos p : Pos} {Γ : List Spec} {x y : Ex} {xs : List Ex}
theorem ps_imp {s : Stmt} {t t' : TS} (h : PS X s t) (k : ∀ D σ H, t' D σ H → t D σ H) : PS X s t' := ⟨fun pins s σ H D I q => h.run pins s σ H D I (k _ _ _ q)⟩
theorem pss_imp {s : List Stmt} {t t' : TS} (h : PSs X s t) (k : ∀ D σ H, t' D σ H → t D σ H) : PSs X s t' := ⟨fun pins s σ H D I q => h.run pins s σ H D I (k _ _ _ q)⟩

theorem zss_nil : PSs X [] (LS X W (wSs Γ [])) := pss_imp pss_nil fun D σ H ⟨ρ, σz, h, Dd, s, k, w⟩ => by
  unfold wSs at w
  exact k.nx ρ σz h σ H .refl s w
theorem zss_cons {st : Stmt} {sts : List Stmt} {s : Sm} {r : List Sm} (h1 : PS X st (LS X W (wS Γ s))) (h2 : PSs X sts (LS X W (wSs Γ r))) : PSs X (st :: sts) (LS X W (wSs Γ (s :: r))) := by
  refine pss_imp (pss_cons h1 h2) fun D σ H ⟨ρ, σz, h, Dd, s, k, w⟩ => ?_
  unfold wSs at w
  refine ⟨ρ, σz, h, { Dd with nx := fun σ' h' => wSs Γ r σ' h' Dd }, s, ⟨fun ρ' σz' h' σ' H' n s' w' => ?_, k.bk, k.ct, k.rt, k.ex⟩, w⟩
  exact ⟨ρ', σz', h', Dd, s', k.go n, w'⟩
theorem zs_pss : PS X (.Pass pos) (LS X W (wS Γ .pss)) := ps_imp ps_pass fun D σ H ⟨ρ, σz, h, Dd, s, k, w⟩ => by
  unfold wS at w
  exact k.nx ρ σz h σ H .refl s w
theorem zs_brk : PS X (.Break pos) (LS X W (wS Γ .brk)) := ps_imp ps_break fun D σ H ⟨ρ, σz, h, Dd, s, k, w⟩ => by
  unfold wS at w
  exact k.bk ρ σz h σ H .refl s w
theorem zs_cnt : PS X (.Continue pos) (LS X W (wS Γ .cnt)) := ps_imp ps_continue fun D σ H ⟨ρ, σz, h, Dd, s, k, w⟩ => by
  unfold wS at w
  exact k.ct ρ σz h σ H .refl s w
theorem zs_doc {z : Str} {j : Nat} {p2 : Pos} : PS X (.Expr (.Constant (.str z) j p2) pos) (LS X W (wS Γ .doc)) := ps_imp ps_doc fun D σ H ⟨ρ, σz, h, Dd, s, k, w⟩ => by
  unfold wS at w
  exact k.nx ρ σz h σ H .refl s w
theorem zs_nev {st : Stmt} : PS X st (LS X W (wS Γ .nev)) := ps_imp ps_never fun D σ H ⟨ρ, σz, h, Dd, s, k, w⟩ => by
  unfold wS at w
  exact w
theorem zs_ret (ha : PE X a (LE X W (wE Γ x))) : PS X (.Return (some a) pos) (LS X W (wS Γ (.ret x))) := ps_imp (ps_ret ha) fun D σ H ⟨ρ, σz, h, Dd, s, k, w⟩ => by
  unfold wS at w
  exact ⟨ρ, σz, h, _, _, s, k.rt, k.kx s, w⟩
theorem zs_retN : PS X (.Return none pos) (LS X W (wS Γ .retN)) := ps_imp ps_retN fun D σ H ⟨ρ, σz, h, Dd, s, k, w⟩ => by
  unfold wS at w
  exact k.rt .non h ρ H .non .refl s.hr rfl w
theorem zs_exp (ha : PE X a (LE X W (wE Γ x))) (hs : swapsWith a none pos.line X.env = pure false) : PS X (.Expr a pos) (LS X W (wS Γ (.exp x))) := ps_imp (ps_expr ha hs) fun D σ H ⟨ρ, σz, h, Dd, s, k, w⟩ => by
  unfold wS at w
  exact ⟨ρ, σz, h, _, _, s, fun r h' ρ' H' v n hr rp w' => k.nx ρ' σz h' σ H' n (s.nx n hr) w', k.kx s, w⟩
theorem zs_ife {s1 s2 : List Stmt} {c1 c2 : List Sm} (hc : PT X c (LT X W (wT Γ x))) (ha : PSs X s1 (LS X W (wSs Γ c1))) (hb : PSs X s2 (LS X W (wSs Γ c2))) : PS X (.If c s1 s2 pos) (LS X W (wS Γ (.ife x c1 c2))) := ps_imp (ps_if hc ha hb) fun D σ H ⟨ρ, σz, h, Dd, s, k, w⟩ => by
  unfold wS at w
  refine ⟨ρ, σz, h, fun t h1 => if t = true then wSs Γ c1 σz h1 Dd else wSs Γ c2 σz h1 Dd, _, s, fun t h' ρ' H' n hr w' => ?_, k.kx s, w⟩
  cases t with
  | true => exact iteT ⟨ρ', σz, h', Dd, s.nx n hr, k.go n, w'⟩
  | false => exact iteF ⟨ρ', σz, h', Dd, s.nx n hr, k.go n, w'⟩
/-- a value stored at a target -/
theorem le_set {t : Tg} (D : Ends) (σ : L2.St) (H : Hp) (q : LS X W (wS Γ (.set t x)) D σ H) : LE X W (wE Γ x) σ H fun v H1 => LG X t v σ H1 D.nx := by
  obtain ⟨ρ, σz, h, Dd, s, k, w⟩ := q
  unfold wS at w
  refine ⟨ρ, σz, h, _, _, s, fun y h' ρ' H' v n hr py w' => ?_, k.kx s, w⟩
  split at w'
  · rename_i σz' e
    exact ⟨ρ', σz, h', y, s.nx n hr, py, σz', e, fun σ' s' _ => k.nx ρ' σz' h' σ' H' n s' w'⟩
  · exact w'.elim
theorem zs_set {t : Tg} {tg : Expr} (ha : PE X a (LE X W (wE Γ x))) (hg : PG X tg (LG X t)) (hs : swapsWithSole [tg] a pos.line X.env = pure false) (hw : swappedStores [tg] a X.env = pure none) (h1 : (assignEach [tg] X.env).map (·.2) = [assign tg X.env]) :
    PS X (.Assign [tg] a pos) (LS X W (wS Γ (.set t x))) := ps_imp (ps_asg ha hg hs hw h1) le_set
theorem zs_par {i j : Nat} {nm nm2 : Str} {px py pt : Pos} {kt k2 : Nat} {pt2 : Pos} (hc : X.calm = true) (hN : X.N.Nodup) (hi : X.N[i]? = some nm) (hj : X.N[j]? = some nm2) (hij : i ≠ j) (hx : X.env.scope.names.lookup nm = some .local) (hy : X.env.scope.names.lookup nm2 = some .local)
    (ha : PE X a (LE X W (wE Γ x))) (hb : PE X b (LE X W (wE Γ y))) (hs1 : starEach [a, b] X.env = (false, eval a X.env) :: starEach [b] X.env) (hs2 : starEach [b] X.env = (false, eval b X.env) :: starEach [] X.env)
    (hw : swappedStores [.Tuple [.Name nm px, .Name nm2 py] kt pt] (.Tuple [a, b] k2 pt2) X.env = pure (some [nm, nm2])) :
    PS X (.Assign [.Tuple [.Name nm px, .Name nm2 py] kt pt] (.Tuple [a, b] k2 pt2) pos) (LS X W (wS Γ (.par i j x y))) := ps_imp (ps_par hc hN hi hj hij hx hy (pa_cons ha (pa_cons hb pa_nil hs2) hs1) hw) fun D σ H ⟨ρ, σz, h, Dd, s, k, w⟩ => by
  unfold wS at w
  refine ⟨ρ, σz, h, _, _, s, fun y h' ρ' H' v n hr py w' => ?_, k.kx s, w⟩
  refine ⟨ρ', σz, h', _, _, s.nx n hr, fun z h2 ρ2 H2 u n2 hr2 pz w2 => ?_, (k.go n).kx (s.nx n hr), w'⟩
  refine ⟨v, u, rfl, k.nx ρ2 _ h2 _ H2 (n.trans n2) ?_ w2⟩
  exact (((s.nx n hr).nx n2 hr2).set i (py.nx hr n2)).set j pz
theorem zs_sto {z : Ex} {p2 : Pos} (hu : X.A.units + 1 < cLine) (hv : PE X e (LE X W (wE Γ z))) (ho : PE X a (LE X W (wE Γ x))) (hi : PE X b (LE X W (wE Γ y))) (hs : swapsWith e (some (.Subscript a b p2)) pos.line X.env = pure false) :
    PS X (.Assign [.Subscript a b p2] e pos) (LS X W (wS Γ (.sto x y z))) := by
  refine ⟨fun pins s σ H D I ⟨ρ, σz, h, Dd, sr, k, w⟩ => ?_⟩
  unfold wS at w
  refine wpAny_Assign_Subscript (thn (hv.run pins s σ H (fun v H1 => ∃ (ρ1 : List Addr) (h1 : Hep) (vz : PV), Nx ρ H ρ1 H1 ∧ HR X.K X.mg ρ1 h1 H1 ∧ Rep X.K ρ1 H1 vz v ∧ wE Γ x σz h1 (fun x h2 => wE Γ y σz h2 (fun y h3 => storeW x y vz h3 fun h4 => Dd.nx σz h4) fun x h1 => Dd.ex x σz h1) fun x h1 => Dd.ex x σz h1) I
    ⟨ρ, σz, h, _, _, sr, fun vz h1 ρ1 H1 v n1 r1 p1 w1 => ⟨ρ1, h1, vz, n1, r1, p1, w1⟩, k.kx sr, w⟩) fun rv s1 ⟨v, H1, I1, rrv, ρ1, h1, vz, n1, r1, p1, w1⟩ => ?_) hs
  have s1' := sr.nx n1 r1
  refine thn (ho.run pins s1 σ H1 (fun o H2 => ∃ (ρ2 : List Addr) (h2 : Hep) (oz : PV), Nx ρ1 H1 ρ2 H2 ∧ HR X.K X.mg ρ2 h2 H2 ∧ Rep X.K ρ2 H2 oz o ∧ wE Γ y σz h2 (fun y h3 => storeW oz y vz h3 fun h4 => Dd.nx σz h4) fun x h1 => Dd.ex x σz h1) I1
    ⟨ρ1, σz, h1, _, _, s1', fun oz h2 ρ2 H2 o n2 r2 p2 w2 => ⟨ρ2, h2, oz, n2, r2, p2, w2⟩, (k.go n1).kx s1', w1⟩) fun ro s2 ⟨o, H2, I2, rro, ρ2, h2, oz, n2, r2, p2, w2⟩ => ?_
  have s2' := s1'.nx n2 r2
  refine thn (hi.run pins s2 σ H2 (fun i H3 => ∃ (ρ3 : List Addr) (h3 : Hep) (iz : PV), Nx ρ2 H2 ρ3 H3 ∧ HR X.K X.mg ρ3 h3 H3 ∧ Rep X.K ρ3 H3 iz i ∧ storeW oz iz vz h3 fun h4 => Dd.nx σz h4) I2
    ⟨ρ2, σz, h2, _, _, s2', fun iz h3 ρ3 H3 i n3 r3 p3 w3 => ⟨ρ3, h3, iz, n3, r3, p3, w3⟩, ((k.go n1).go n2).kx s2', w2⟩) fun ri s3 ⟨i, H3, I3, rri, ρ3, h3, iz, n3, r3, p3, w3⟩ => ?_
  have p1' := (p1.nx r1 n2).nx r2 n3
  have p2' := p2.nx r2 n3
  refine thn (set_all (Q := fun H4 => D.nx σ H4) hu I3 rro rri rrv r3 p2' p3 p1' w3 fun h4 H4 n4 r4 w4 => ?_) fun _ s4 ⟨H4, I4, q4⟩ => ⟨σ, H4, I4, q4⟩
  exact k.nx ρ3 σz h4 σ H4 (((n1.trans n2).trans n3).trans n4) ((s2'.nx n3 r3).nx n4 r4) w4
/-! ### loops -/
theorem zs_whl {sb : List Stmt} {cb : List Sm} (po : PassesOwn (model X.prog X.w) X.A X.env X.xe) (hc : PT X c (LT X W (wT Γ x))) (hb : PSs X sb (LS X W (wSs Γ cb))) : PS X (.While c sb [] pos) (LS X W (wS Γ (.whl x cb))) := ps_imp (ps_while po hc hb) fun D σ H ⟨ρ, σz, h, Dd, s, k, w⟩ => by
  unfold wS at w
  obtain ⟨Wz, ⟨m0, w0⟩, turn⟩ := w
  refine ⟨fun m σ' H' => ∃ (ρ' : List Addr) (σz' : Env) (h' : Hep), Nx ρ H ρ' H' ∧ SR X ρ' σz' h' σ' H' ∧ Wz m σz' h', ⟨m0, ρ, σz, h, .refl, s, w0⟩, fun m σ1 H1 ⟨ρ1, σz1, h1, n1, s1, w1⟩ => ?_⟩
  refine ⟨ρ1, σz1, h1, _, _, s1, fun t h2 ρ2 H2 n2 r2 w2 => ?_, (k.go n1).kx s1, turn m σz1 h1 w1⟩
  cases t with
  | true =>
    rw [if_pos rfl] at w2
    refine iteT ⟨fun σ' H' => ∃ m', m' < m ∧ ∃ (ρ' : List Addr) (σz' : Env) (h' : Hep), Nx ρ H ρ' H' ∧ SR X ρ' σz' h' σ' H' ∧ Wz m' σz' h', fun σ' H' z => z, ρ2, σz1, h2, { Dd with nx := fun σ2 h2 => ∃ m', m' < m ∧ Wz m' σ2 h2, ct := fun σ2 h2 => ∃ m', m' < m ∧ Wz m' σ2 h2, bk := Dd.nx }, s1.nx n2 r2, ⟨fun ρ3 σz3 h3 σ3 H3 n3 s3 ⟨m', hm, w3⟩ => ?_, (k.go (n1.trans n2)).nx, fun ρ3 σz3 h3 σ3 H3 n3 s3 ⟨m', hm, w3⟩ => ?_, (k.go (n1.trans n2)).rt, (k.go (n1.trans n2)).ex⟩, w2⟩
    · exact ⟨m', hm, ρ3, σz3, h3, (n1.trans n2).trans n3, s3, w3⟩
    · exact ⟨m', hm, ρ3, σz3, h3, (n1.trans n2).trans n3, s3, w3⟩
  | false =>
    rw [if_neg Bool.false_ne_true] at w2
    exact iteF (k.nx ρ2 σz1 h2 σ1 H2 (n1.trans n2) (s1.nx n2 r2) w2)
theorem zs_for {t : Tg} {it : Ex} {tg iter : Expr} {sb : List Stmt} {cb : List Sm} (po : PassesOwn (model X.prog X.w) X.A X.env X.xe) (hc : X.calm = true) (hi : PI X tg iter (LI X W (wI Γ it))) (hg : PG X tg (LG X t)) (hb : PSs X sb (LS X W (wSs Γ cb)))
    (hs : ∀ x, foldedSetIterable iter X.env x = pure x) : PS X (.For tg iter sb [] pos) (LS X W (wS Γ (.for_ t it cb))) := ps_imp (ps_for po hc hi hg hb hs) fun D σ H ⟨ρ, σz, h, Dd, s, k, w⟩ => by
  unfold wS at w
  refine ⟨ρ, σz, h, _, _, s, fun items g h1 ρ1 H1 J n1 r1 ok w1 => ?_, k.kx s, w⟩
  refine ⟨fun i m σ' H' => i + m = items.length ∧ ∃ (ρ' : List Addr) (σz' : Env) (h' : Hep), Nx ρ1 H1 ρ' H' ∧ SR X ρ' σz' h' σ' H' ∧ wFor g t (fun σ' h' D' => wSs Γ cb σ' h' D') (items.drop i) σz' h' Dd, ⟨items.length, by omega, ρ1, σz, h1, .refl, s.nx n1 r1, by rw [List.drop_zero]; exact w1⟩, ?_⟩
  rintro i m σ2 H2 ⟨hi, ρ2, σz2, h2, n2, s2, w2⟩
  have n02 := n1.trans n2
  by_cases hlt : i < items.length
  · refine .inr ?_
    rw [List.drop_eq_getElem_cons hlt] at w2
    unfold wFor at w2
    obtain ⟨gk, w2⟩ := w2
    obtain ⟨go, yl⟩ := (ok ρ2 h2 H2 n2 s2.hr gk i).2 items[i] (List.getElem?_eq_getElem hlt)
    refine ⟨go, fun σ' H' => ∃ (ρ' : List Addr) (σz' : Env) (h' : Hep), Nx ρ1 H1 ρ' H' ∧ SR X ρ' σz' h' σ' H' ∧ wFor g t (fun σ' h' D' => wSs Γ cb σ' h' D') (items.drop (i + 1)) σz' h' Dd, fun σ' H' z => ⟨m - 1, by omega, by omega, z⟩, fun v H3 y => ?_⟩
    obtain ⟨n3, r3, pv⟩ := yl v H3 y
    split at w2
    · rename_i σz' et
      refine ⟨ρ2, σz2, h2, items[i], s2.nx n3 r3, pv, σz', et, fun σ' s' _ => ?_⟩
      have n03 := n02.trans n3
      refine ⟨ρ2, σz', h2, { Dd with nx := fun σ2 h2 => wFor g t (fun σ' h' D' => wSs Γ cb σ' h' D') (items.drop (i + 1)) σ2 h2 Dd, ct := fun σ2 h2 => wFor g t (fun σ' h' D' => wSs Γ cb σ' h' D') (items.drop (i + 1)) σ2 h2 Dd, bk := Dd.nx }, s', ⟨fun ρ4 σz4 h4 σ4 H4 n4 s4 w4 => ?_, (k.go n03).nx, fun ρ4 σz4 h4 σ4 H4 n4 s4 w4 => ?_, (k.go n03).rt, (k.go n03).ex⟩, w2⟩
      · exact ⟨ρ4, σz4, h4, (n2.trans n3).trans n4, s4, w4⟩
      · exact ⟨ρ4, σz4, h4, (n2.trans n3).trans n4, s4, w4⟩
    · exact w2.elim
  · have hi' : i = items.length := by omega
    subst hi'
    rw [List.drop_length] at w2
    unfold wFor at w2
    obtain ⟨gk, w2⟩ := w2
    exact .inl ⟨(ok ρ2 h2 H2 n2 s2.hr gk _).1 rfl, k.nx ρ2 σz2 h2 σ2 H2 n02 s2 w2⟩
/-! ### exceptions -/
theorem zs_rai {c m : Str} {j : Nat} {p2 p3 : Pos} (er : ErReady X c) (hc : X.calm = true) (tk : Takes X W) (hg : Gl X c) (hd : (c == ("__debug__" : Str)) = false) : PS X (.Raise (some (.Call (.Name c p) [.Constant (.str m) j p2] [] p3)) none pos) (LS X W (wS Γ (.rai c))) := by
  obtain ⟨C, hm, hn, hx, hk, h1, h2⟩ := er
  refine ps_imp (ps_raise hc tk (pmk_own PySem.F.excBase_ValueError hx hm hk (raises_own h1 h2) hg hd)) fun D σ H ⟨ρ, σz, h, Dd, s, k, w⟩ => ?_
  unfold wS at w
  show W (.ref C) none σ H
  exact k.ex ⟨c, []⟩ ρ σz h σ H _ _ .refl s ⟨C, hn, rfl, .inl ⟨rfl, rfl⟩⟩ w
theorem repF_zip {K : PySem.W.Frag} {ρ : List Addr} {H : Hp} : ∀ {fs : List (Str × PV)} {gs : List (Str × V)}, RepF K ρ H fs gs → (fs.map (·.1)).zip (gs.map (·.2)) = gs ∧ Reps K ρ H (fs.map (·.2)) (gs.map (·.2)) ∧ fs.length = gs.length
  | [], _, q => by cases q; exact ⟨rfl, rfl, rfl⟩
  | (f, x) :: fs, _, ⟨v, r, e, p, q⟩ => by
    subst e
    obtain ⟨q1, q2, q3⟩ := repF_zip q
    exact ⟨by rw [List.map_cons, List.map_cons, List.zip_cons_cons, q1], ⟨v, _, rfl, p, q2⟩, by rw [List.length_cons, List.length_cons, q3]⟩
theorem kept_rep {ρ : List Addr} {h : Hep} {H : Hp} {x : XV} {cls : Value} {d : Option Addr} {a : Addr} (r : HR X.K X.mg ρ h H) (q : XR X.K X.mg ρ H x cls d) (na : H a = none) : Rep X.K ρ (upd H a (Zh.KeptX cls d a)) (keptV x) (.ref a) := by
  obtain ⟨C, hn, rfl, z⟩ := q
  have st := (r.tupl na (Zh.KeptX (.ref C) d a)).2
  rcases z with ⟨e1, e2⟩ | ⟨dd, gs, e1, e2, e3, e4⟩
  · refine ⟨a, C, d, [], rfl, hn, upd_same, ?_, ?_, .inl ⟨?_, e2⟩⟩
    · rw [e1]; exact rfl
    · rw [e1]; rfl
    · rw [e1]; rfl
  · obtain ⟨q1, q2, q3⟩ := repF_zip e4
    refine ⟨a, C, d, gs.map (·.2), rfl, hn, upd_same, Reps.stay (r.stay st) _ _ q2, by rw [List.length_map, List.length_map, q3], .inr ⟨dd, e1, ?_⟩⟩
    rw [q1, upd_ne (ne_of_none e2 na)]
    exact e2
theorem zs_tryk {c n m : Str} {i j : Nat} {b : List Sm} {cs rs ts : List Str} {body : List Stmt} {np p1 p2 p3 pos' : Pos} (xr : XsReady X rs ts) (hcs : ∀ a ∈ cs, a ∈ rs) (hct : c ∈ ts) (hs : X.stack = X.env :: X.outer) (hf : X.env.frame = some X.env.locals) (hex : X.ex = []) (hN : X.N.Nodup) (hi : X.N[i]? = some n) (hj : X.N[j]? = some m) (ij : i ≠ j)
    (hln : X.env.kindOf n = some .local) (hlm : X.env.kindOf m = some .local) (hg : Gl X c) (hd : (c == ("__debug__" : Str)) = false) (hdn : (n == ("__debug__" : Str)) = false) (hcn : (n == ("__classdict__" : Str)) = false) (tk : Takes X W) (hrs : rs ≠ [])
    (hb : ∀ (W' : WX) (pn : List (Addr × Obj)) (xe : Value → Shared → Prop), Takes (X.tr pn xe) W' → PassesOwn (model X.prog X.w) X.A X.env xe → PSs (X.tr pn xe) body (LS X W' (wSs Γ b))) :
    PS X (.Try body [.ExceptHandler (some (.Name c np)) (some n) [.Assign [.Name m p1] (.Name n p2) p3] pos'] [] [] pos) (LS X W (wS Γ (.tryk b cs c i j))) := by
  obtain ⟨cv, hcv⟩ : ∃ cv, XnIs X c cv := by
    cases rs with
    | nil => exact absurd rfl hrs
    | cons a rs =>
      obtain ⟨C, _, _, q⟩ := xr a List.mem_cons_self
      obtain ⟨cv, q, _⟩ := q c hct
      exact ⟨cv, q⟩
  have uniq : ∀ cv', XnIs X c cv' → cv' = cv := fun cv' q => by
    rcases q with q | ⟨q1, q2, _⟩ <;> rcases hcv with z | ⟨z1, z2, _⟩
    · rw [q] at z; exact Option.some.inj z
    · rw [q] at z1; cases z1
    · rw [z] at q1; cases q1
    · rw [q2] at z2; exact Option.some.inj z2
  refine ps_imp (Zh.ps_try_keep hs hf hex hN hi hj hln hlm ⟨hg, hd, hcv⟩ tk hdn hcn (tb := fun W' => LS X W' (wSs Γ b)) hb) fun D σ H ⟨ρ, σz, h, Dd, s, k, w⟩ => ?_
  unfold wS at w
  refine ⟨ρ, σz, h, { Dd with ex := fun x σ' h' => x.cls ∈ cs ∧ if subX x.cls c = true then Dd.nx ((σ'.set j (some (keptV x))).set i none) h' else Dd.ex x σ' h' }, s, ⟨k.nx, k.bk, k.ct, k.rt, fun x ρ1 σz1 h1 σ1 H1 cls d n1 s1 q w1 => ?_⟩, w⟩
  obtain ⟨hx, w1⟩ := w1
  have q' := q
  obtain ⟨C, hn, ec, _⟩ := q'
  obtain ⟨C', hn', _, facts⟩ := xr x.cls (hcs _ hx)
  rw [hn] at hn'
  cases hn'
  obtain ⟨cv', e1, e2, _⟩ := facts c hct
  rw [uniq cv' e1] at e2
  subst ec
  refine ⟨subX x.cls c, e2, fun yes a na => ?_, fun no => ?_⟩
  · rw [if_pos yes] at w1
    have kr := kept_rep s1.hr q na
    obtain ⟨r2, n2⟩ := s1.hr.tupl na (Zh.KeptX (.ref C) d a)
    have s2 := ((s1.nx n2 r2).set j kr).wipe [i]
    have e : ((σ1.set i (some (V.ref a))).set j (some (V.ref a))).set i none = (σ1.set j (some (V.ref a))).set i none := by
      rw [List.set_comm _ _ ij, List.set_set]
    rw [e]
    exact k.nx ρ1 _ h1 _ _ (n1.trans n2) s2 w1
  · rw [if_neg (by rw [no]; exact Bool.false_ne_true)] at w1
    exact k.ex x ρ1 σz1 h1 σ1 H1 _ d n1 s1 q w1

end
end Z

/-! ZsK: the look that a text of Z's is a def's body, and soundness as a whole. -/
namespace Z
open PySem PyProof.Rows L2

/-! ### looks -/
def lkB (sc : Scope) (x : Str) (k : NameKind) : Bool := decide (sc.names.lookup x = some k)
def visB (sc : Scope) (x : Str) : Bool := lkB sc x .local || lkB sc x .cell || lkB sc x .free
def glB (sc : Scope) (x : Str) : Bool := lkB sc x .globalImplicit && !(x == ("__debug__" : Str))
def nStar : Expr → Bool
  | .Starred .. => false
  | _ => true
def nSlice : Expr → Bool
  | .Slice .. => false
  | _ => true
def nSet : Expr → Bool
  | .Set .. => false
  | _ => true
def nComp : Expr → Bool
  | .ListComp .. => false
  | .SetComp .. => false
  | .DictComp .. => false
  | _ => true
def attrOk : Expr → Bool
  | .Call (.Name _ _) [] [] _ => false
  | _ => true
theorem star_of {e : Expr} (h : nStar e = true) (r : List Expr) (env : PySem.Env) : starEach (e :: r) env = (false, eval e env) :: starEach r env := by
  cases e <;> first | rfl | cases h
theorem plain_ix {e : Expr} (h : nSlice e = true) : PlainIx e := by
  intro o i
  cases e <;> first | rfl | cases h
theorem marks_of {o : CmpOp} {e : Expr} (h : nSet e = true) : behindInMarks o e = false := by
  cases e <;> first | rfl | cases h
theorem marks2_of {o o' : CmpOp} {a e : Expr} (h : nSet e = true) : lastMarks [o, o'] [a, e] = false := marks_of h
theorem folded_of {e : Expr} (h : nSet e = true) (env : PySem.Env) (x : Value) : foldedSetIterable e env x = pure x := by
  cases e <;> first | rfl | cases h
theorem swap_no {e : Expr} (h : nComp e = true) (t : Option Expr) (l : Nat) (env : PySem.Env) : swapsWith e t l env = pure false := by
  cases e <;> first | rfl | cases h
theorem attr_of {e : Expr} (h : attrOk e = true) (n : Str) (env : PySem.Env) (w : Sem Value) : attributeBase e n env w = w := by
  cases e with
  | Call f as ks p =>
    cases f <;> cases as <;> cases ks <;> first | rfl | cases h
  | _ => rfl

mutual
def PV.same : PV → PV → Bool
  | .non, .non => true
  | .bl a, .bl b => a == b
  | .int a, .int b => a == b
  | .str a, .str b => a == b
  | .itp a, .itp b => PV.sames a b
  | _, _ => false
def PV.sames : List PV → List PV → Bool
  | [], [] => true
  | x :: xs, y :: ys => PV.same x y && PV.sames xs ys
  | _, _ => false
end
mutual
theorem PV.same_eq : ∀ {x y : PV}, x.same y = true → x = y
  | .non, .non, _ => rfl
  | .bl a, .bl b, h => congrArg PV.bl (by simpa [PV.same] using h)
  | .int a, .int b, h => congrArg PV.int (by simpa [PV.same] using h)
  | .str a, .str b, h => congrArg PV.str (by simpa [PV.same] using h)
  | .itp a, .itp b, h => congrArg PV.itp (PV.sames_eq h)
theorem PV.sames_eq : ∀ {x y : List PV}, PV.sames x y = true → x = y
  | [], [], _ => rfl
  | x :: xs, y :: ys, h => by
    have h : (PV.same x y && PV.sames xs ys) = true := h
    rw [Bool.and_eq_true] at h
    rw [PV.same_eq h.1, PV.sames_eq h.2]
end

def miName : MI → String
  | .append => "append" | .pop => "pop" | .popAt => "pop" | .index => "index" | .remove => "remove" | .extend => "extend" | .clear => "clear" | .count => "count" | .insert => "insert"
/-- which methods may stand in a text (zjoin takes out what a law has not) -/
def miOk : MI → Bool
  | .popAt => false
  | .remove => false
  | .extend => false
  | .insert => false
  | .clear => false
  | .pop => false
  | _ => true
def miAr : MI → Nat
  | .append => 1 | .pop => 0 | .popAt => 1 | .index => 1 | .remove => 1 | .extend => 1 | .clear => 0 | .count => 1 | .insert => 2
/-- the shape of a built-in's call: the names it leans on, its arguments -/
def biForm (b : BI) (x : Str) (as : List Expr) : Option (List Str × List Expr) := match b with
  | .tuple => if x == ("tuple" : Str) && decide (as.length = 1) then some ([x], as) else none
  | .lenkeys => (match as with
    | [.Call (.Name y _) bs [] _] => if x == ("len" : Str) && y == ("set" : Str) && decide (bs.length = 1) then some ([x, y], bs) else none
    | _ => none)
  | .listrange => (match as with
    | [.Call (.Name y _) bs [] _] => if x == ("list" : Str) && y == ("range" : Str) && (decide (bs.length = 1) || decide (bs.length = 2)) then some ([x, y], bs) else none
    | _ => none)
  | b => (match biName b with
    | some (n, _) => if x == Str.ofString n && !as.isEmpty then some ([x], as) else none
    | none => none)
def ownP (N : List Str) (own : List Nat) : List (Str × Nat) := own.filterMap fun i => (N[i]?).map fun x => (x, i)
/-- where a comprehension may store -/
def tkB (scope sc : Scope) (x : Str) : Bool := lkB (L2.relS scope sc) x .local || (lkB (L2.relS scope sc) x .cell && decide (scope.names.lookup x = some .cell))
def tkD (sc : Scope) (x : Str) : Bool := lkB sc x .local || lkB sc x .cell

mutual
def mtT (N : List Str) (tk : Str → Bool) : Tg → Expr → Bool
  | .nm i, .Name x _ => decide (N[i]? = some x) && tk x
  | .tp ts, .Tuple es _ _ => mtTs N tk ts es
  | _, _ => false
def mtTs (N : List Str) (tk : Str → Bool) : List Tg → List Expr → Bool
  | [], [] => true
  | t :: ts, e :: es => mtT N tk t e && mtTs N tk ts es
  | _, _ => false
end
/-- the same expression, to the letter (of the kinds that stand in lambdas) -/
def eqL (f : Expr → Expr → Bool) : List Expr → List Expr → Bool
  | [], [] => true
  | a :: as, b :: bs => f a b && eqL f as bs
  | _, _ => false
def eqO (f : Expr → Expr → Bool) : Option Expr → Option Expr → Bool
  | none, none => true
  | some a, some b => f a b
  | _, _ => false
def eqE : Nat → Expr → Expr → Bool
  | 0, _, _ => false
  | n + 1, a, b => match a with
    | .Name x p => (match b with | .Name y q => decide (x = y) && decide (p = q) | _ => false)
    | .Constant x k p => (match b with | .Constant y l q => decide (x = y) && decide (k = l) && decide (p = q) | _ => false)
    | .Call f as [] p => (match b with | .Call g bs [] q => eqE n f g && eqL (eqE n) as bs && decide (p = q) | _ => false)
    | .Tuple as k p => (match b with | .Tuple bs l q => eqL (eqE n) as bs && decide (k = l) && decide (p = q) | _ => false)
    | .List as p => (match b with | .List bs q => eqL (eqE n) as bs && decide (p = q) | _ => false)
    | .BinOp x o y p => (match b with | .BinOp z o' w q => eqE n x z && decide (o = o') && eqE n y w && decide (p = q) | _ => false)
    | .UnaryOp o x p => (match b with | .UnaryOp o' y q => decide (o = o') && eqE n x y && decide (p = q) | _ => false)
    | .Subscript x y p => (match b with | .Subscript z w q => eqE n x z && eqE n y w && decide (p = q) | _ => false)
    | .Slice x y z p => (match b with | .Slice u v w q => eqO (eqE n) x u && eqO (eqE n) y v && eqO (eqE n) z w && decide (p = q) | _ => false)
    | _ => false
theorem eqL_eq {f : Expr → Expr → Bool} (hf : ∀ a b, f a b = true → a = b) : ∀ (as bs : List Expr), eqL f as bs = true → as = bs
  | [], [], _ => rfl
  | [], _ :: _, h => by cases h
  | _ :: _, [], h => by cases h
  | a :: as, b :: bs, h => by
    have h : (f a b && eqL f as bs) = true := h
    rw [Bool.and_eq_true] at h
    rw [hf a b h.1, eqL_eq hf as bs h.2]
theorem eqO_eq {f : Expr → Expr → Bool} (hf : ∀ a b, f a b = true → a = b) : ∀ (as bs : Option Expr), eqO f as bs = true → as = bs
  | none, none, _ => rfl
  | none, some _, h => by cases h
  | some _, none, h => by cases h
  | some a, some b, h => by rw [hf a b h]
theorem eqE_eq : ∀ (n : Nat) (a b : Expr), eqE n a b = true → a = b := by
  intro n
  induction n with
  | zero => intro a b h; cases h
  | succ n ih =>
    intro a b h
    have il := eqL_eq ih
    have io := eqO_eq ih
    unfold eqE at h
    split at h
    all_goals first | cases h | skip
    all_goals split at h
    all_goals first | cases h | skip
    all_goals simp only [Bool.and_eq_true, decide_eq_true_eq] at h
    · rw [h.1, h.2]
    · rw [h.1.1, h.1.2, h.2]
    · rw [ih _ _ h.1.1, il _ _ h.1.2, h.2]
    · rw [il _ _ h.1.1, h.1.2, h.2]
    · rw [il _ _ h.1, h.2]
    · rw [ih _ _ h.1.1.1, h.1.1.2, ih _ _ h.1.2, h.2]
    · rw [h.1.1, ih _ _ h.1.2, h.2]
    · rw [ih _ _ h.1.1, ih _ _ h.1.2, h.2]
    · rw [io _ _ h.1.1.1, io _ _ h.1.1.2, io _ _ h.1.2, h.2]
/-- the lambdas that a body holds in lists, in their order -/
def lamOne : Expr → List (Expr × Scope)
  | .Lambda _ b s _ => [(b, s)]
  | _ => []
def lamIn : Expr → List (Expr × Scope)
  | .List es _ => es.flatMap lamOne
  | .Call _ as _ _ => as.flatMap lamOne
  | _ => []
def lamsOf : Nat → List Stmt → List (Expr × Scope)
  | 0, _ => []
  | n + 1, ss => ss.flatMap fun s => match s with
    | .Assign _ v _ => lamIn v
    | .Expr v _ => lamIn v
    | .For _ _ b _ _ => lamsOf n b
    | .If _ a b _ => lamsOf n a ++ lamsOf n b
    | _ => []
/-- a sayer called with a comprehension's own variable -/
def comY (nm : List Cn) (N : List Str) (i p : Nat) (rs : Scope) (g z : Str) : Bool := decide (nm[i]? = some (.sa g)) && glB rs g && decide (N[p]? = some z) && visB rs z && !(z == ("__debug__" : Str)) && !(z == ("__classdict__" : Str))
def comX (nm : List Cn) (N : List Str) (i p : Nat) (rs : Scope) (tl : Bool) (el : Expr) : Bool := match tl with
  | false => (match el with | .Call (.Name g _) [.Name z _] [] _ => comY nm N i p rs g z | _ => false)
  | true => (match el with | .Call (.Name f _) [.Call (.Name g _) [.Name z _] [] _, .Name ty _] [] _ => f == ("isinstance" : Str) && ty == ("list" : Str) && glB rs f && glB rs ty && comY nm N i p rs g z | _ => false)
mutual
def mtE (nm : List Cn) (cs : List (Str × PV)) (N : List Str) : Scope → Ex → Expr → Bool
  | sc, .var i, .Name x _ => decide (N[i]? = some x) && visB sc x && !(x == ("__debug__" : Str)) && !(x == ("__classdict__" : Str))
  | _, .non, .Constant .none _ _ => true
  | _, .bl b, .Constant (.bool c) _ _ => b == c
  | _, .int i, .Constant (.int j) _ _ => i == j
  | _, .str s, .Constant (.str t) _ _ => s == t
  | sc, .con x v, .Name y _ => x == y && glB sc y && cs.any fun p => p.1 == y && p.2.same v
  | sc, .bin o a b, .BinOp l p r _ => decide (o = p) && mtE nm cs N sc a l && mtE nm cs N sc b r
  | sc, .neg a, .UnaryOp .USub l _ => mtE nm cs N sc a l
  | sc, .not a, .UnaryOp .Not l _ => mtE nm cs N sc a l
  | sc, .and a b, .BoolOp .And (x :: y :: r) pos => mtE nm cs N sc a x && (match r with | [] => mtE nm cs N sc b y | z :: r => mtE nm cs N sc b (.BoolOp .And (y :: z :: r) pos))
  | sc, .or a b, .BoolOp .Or (x :: y :: r) pos => mtE nm cs N sc a x && (match r with | [] => mtE nm cs N sc b y | z :: r => mtE nm cs N sc b (.BoolOp .Or (y :: z :: r) pos))
  | sc, .ife c a b, .IfExp t l r _ => mtE nm cs N sc c t && mtE nm cs N sc a l && mtE nm cs N sc b r
  | sc, .cmp o a b, .Compare l [p] [r] _ => decide (o = p) && nSet r && mtE nm cs N sc a l && mtE nm cs N sc b r
  | sc, .chn o o' a b c, .Compare l [p, p'] [r, t] _ => decide (o = p) && decide (o' = p') && nSet t && mtE nm cs N sc a l && mtE nm cs N sc b r && mtE nm cs N sc c t
  | sc, .tup es, .Tuple as _ _ => mtEs nm cs N sc es as
  | sc, .xtp es, .Tuple as _ _ => mtEs nm cs N sc es as
  | sc, .lst es, .List as _ => mtEs nm cs N sc es as
  | _, .dct, .Dict [] [] _ => true
  | sc, .idx a i, .Subscript l j _ => nSlice j && mtE nm cs N sc a l && mtE nm cs N sc i j
  | sc, .slc a lo hi, .Subscript l (.Slice p q none _) _ => mtE nm cs N sc a l && mtO nm cs N sc lo p && mtO nm cs N sc hi q
  | sc, .call f es, .Call (.Name x _) as [] _ => decide (nm[f]? = some (.fn x)) && glB sc x && mtEs nm cs N sc es as
  | sc, .bi b es, .Call (.Name x _) as [] _ => (match biForm b x as with | some (gs, bs) => gs.all (glB sc) && mtEs nm cs N sc es bs | none => false)
  | sc, .mi m o es, .Call (.Attribute a n apos) as [] pos => miOk m && n == Str.ofString (miName m) && decide (as.length = miAr m) && attrOk a && apos.endLine == pos.line && mtE nm cs N sc o a && mtEs nm cs N sc es as
  | sc, .isi x t, .Call (.Name f _) [a, .Name ty _] [] _ => f == ("isinstance" : Str) && ty == Str.ofString (itName t) && glB sc f && glB sc ty && nStar a && mtE nm cs N sc x a
  | sc, .isx x rs c, .Call (.Name f _) [a, .Name ty _] [] _ => f == ("isinstance" : Str) && ty == c && glB sc f && glB sc ty && !rs.isEmpty && nm.any (fun q => match q with | .xs rs' ts => decide (rs' = rs) && ts.contains c | _ => false) && !(ty == ("__debug__" : Str)) && nStar a && mtE nm cs N sc x a
  | sc, .rev x, .Subscript a (.Slice none none (some (.UnaryOp .USub (.Constant (.int i) _ _) _)) _) _ => i == 1 && mtE nm cs N sc x a
  | sc, .comp own t it c e, .ListComp el [⟨tg, ir, ifs, 0⟩] scope _ => L2.blkC N sc scope (ownP N own) && decide ((ownP N own).map (·.2) = own) && (slotsT t).all (fun i => own.contains i) && mtT N (tkB scope sc) t tg && mtI nm cs N sc it tg ir &&
      mtC (nm.map deC) cs N (L2.relS scope sc) c ifs && mtE (nm.map deC) cs N (L2.relS scope sc) e el && nSet ir
  | _, .act j, .Call (.Name x _) [] [] _ => decide (nm[j]? = some .ac) && decide (N[0]? = some x)
  | sc, .lmv j m ds k, .Lambda ps body scope _ => decide (nm[j]? = some .tk) && decide (nm[m]? = some .ce) && noPs ps && LamX.lamSB sc scope && (match ds[k]? with | some d => eqE 20 d.1 body && decide (d.2 = scope) | none => false)
  | sc, .coms i j m p k ds bs tl, .ListComp el [⟨.Name y _, .Name x _, [], 0⟩] scope _ => L2.blkC N sc scope (ownP N [p]) && decide ((ownP N [p]).map (·.2) = [p]) && decide (N[p]? = some y) && tkB scope sc y && (decide (N[k]? = some x) && visB sc x && !(x == ("__debug__" : Str)) && !(x == ("__classdict__" : Str))) && decide (nm[j]? = some .tk) && decide (nm[m]? = some .ce) && comX nm N i p (L2.relS scope sc) tl el && mtA (nm.map deL) cs N sc bs ds
  | _, _, _ => false
termination_by structural _ e => e
def mtA (nm : List Cn) (cs : List (Str × PV)) (N : List Str) : Scope → List Ex → List (Expr × Scope) → Bool
  | _, [], [] => true
  | sc, b :: bs, d :: ds => LamX.lamSB sc d.2 && mtE nm cs N d.2 b d.1 && mtA nm cs N sc bs ds
  | _, _, _ => false
termination_by structural _ e => e
def mtEs (nm : List Cn) (cs : List (Str × PV)) (N : List Str) : Scope → List Ex → List Expr → Bool
  | _, [], [] => true
  | sc, e :: es, a :: as => nStar a && mtE nm cs N sc e a && mtEs nm cs N sc es as
  | _, _, _ => false
termination_by structural _ e => e
def mtO (nm : List Cn) (cs : List (Str × PV)) (N : List Str) : Scope → Option Ex → Option Expr → Bool
  | _, none, none => true
  | sc, some e, some a => mtE nm cs N sc e a
  | _, _, _ => false
termination_by structural _ e => e
def mtC (nm : List Cn) (cs : List (Str × PV)) (N : List Str) : Scope → Option Ex → List Expr → Bool
  | _, none, [] => true
  | sc, some e, [a] => mtE nm cs N sc e a
  | _, _, _ => false
termination_by structural _ e => e
def mtI (nm : List Cn) (cs : List (Str × PV)) (N : List Str) : Scope → Ex → Expr → Expr → Bool
  | sc, .rng1 e, _, .Call (.Name x _) [a] [] _ => x == ("range" : Str) && glB sc x && nStar a && mtE nm cs N sc e a
  | sc, .enum e, .Tuple _ _ _, .Call (.Name x _) [a] [] _ => x == ("enumerate" : Str) && glB sc x && nStar a && mtE nm cs N sc e a
  | sc, .wlk e, _, a => mtE nm cs N sc e a
  | _, _, _, _ => false
termination_by structural _ e => e
end
end Z

/-! ZsL: soundness of expressions as a whole. -/
namespace Z
open PySem PyProof.Rows L2

/-- the built-in names that no def shadows -/
def blts : List String := ["len", "max", "min", "sum", "all", "any", "list", "tuple", "int", "isinstance", "range", "enumerate", "zip", "set", "bool", "str", "dict", "sorted", "repr", "reversed", "abs", "divmod"]
def ConReady (X : Cx) (x : Str) (v : PV) : Prop := ∃ (u : Value) (t : V), X.mg x = some u ∧ RelV t u ∧ ∀ (ρ : List Addr) (H : Hp), Rep X.K ρ H v t
structure Good (X : Cx) (W : WX) (nm : List Cn) (cs : List (Str × PV)) (Γ : List Spec) : Prop where
  calm : X.calm = true
  nd : X.N.Nodup
  u2 : X.A.units + 195 < cLine
  tk : Takes X W
  bl : ∀ n ∈ blts, X.mg n = none
  fn : ∀ (i : Nat) (x : Cn), nm[i]? = some x → ∃ S, Γ[i]? = some S ∧ Rdy X x S
  cn : ∀ p ∈ cs, ConReady X p.1 p.2
  lm : ∀ j, nm[j]? = some .tk → LmReady X nm Γ j
theorem Good.un {X : Cx} {W : WX} {nm : List Cn} {cs : List (Str × PV)} {Γ : List Spec} (G : Good X W nm cs Γ) : X.A.units + 65 < cLine := by have := G.u2; omega

section
variable {X : Cx} {W : WX} {nm : List Cn} {cs : List (Str × PV)} {Γ : List Spec}
theorem map_get {f : Cn → Cn} {i : Nat} {x : Cn} (e : (nm.map f)[i]? = some x) : ∃ y, nm[i]? = some y ∧ f y = x := by
  rw [List.getElem?_map] at e
  cases g : nm[i]? with
  | none => rw [g] at e; cases e
  | some y => rw [g] at e; exact ⟨y, rfl, Option.some.inj e⟩
theorem Good.blk (G : Good X W nm cs Γ) (s : Shared) (H : Hp) (scope : Scope) (cenv : PySem.Env) (fp : List Addr) : Good (X.blk s H scope cenv fp) (fun _ _ _ _ => False) (nm.map deC) cs Γ :=
  ⟨G.calm, G.nd, G.u2, takes0, G.bl, fun i x e => by
    obtain ⟨y, g, rfl⟩ := map_get e
    obtain ⟨S, eS, q⟩ := G.fn i y g
    refine ⟨S, eS, ?_⟩
    cases y <;> first | exact q | exact trivial, G.cn, fun j e => by
    obtain ⟨y, _, z⟩ := map_get e
    cases y <;> cases z⟩
theorem gl_of {x : Str} (h : glB X.env.scope x = true) : Gl X x ∧ (x == ("__debug__" : Str)) = false := by
  unfold glB lkB at h
  rw [Bool.and_eq_true] at h
  have e : X.env.scope.names.lookup x = some .globalImplicit := of_decide_eq_true h.1
  exact ⟨e, by simpa using h.2⟩
theorem vis_of {x : Str} (h : visB X.env.scope x = true) : Vis X.env.scope x := by
  unfold visB lkB at h
  rw [Bool.or_eq_true, Bool.or_eq_true] at h
  rcases h with (h | h) | h
  · exact .inl (of_decide_eq_true h)
  · exact .inr (.inl (of_decide_eq_true h))
  · exact .inr (.inr (of_decide_eq_true h))
/-- what tk tells of names -/
def TkOk (X : Cx) (tk : Str → Bool) : Prop := ∀ x, tk x = true → Loc X.env.scope x ∧ (X.fn x = true ∨ X.env.scope.names.lookup x = some .local)
theorem tkB_ok (s : Shared) (H : Hp) (scope : Scope) (C : Addr) (cl : List (Str × Addr)) (fp : List Addr) : TkOk (X.blk s H scope (compEnvC scope cl C X.env) fp) (tkB scope X.env.scope) := by
  intro x h
  unfold tkB lkB at h
  rw [Bool.or_eq_true, Bool.and_eq_true] at h
  rcases h with h | ⟨h, h2⟩
  · have e : (L2.relS scope X.env.scope).names.lookup x = some .local := of_decide_eq_true h
    exact ⟨.inl e, .inr e⟩
  · have e : (L2.relS scope X.env.scope).names.lookup x = some .cell := of_decide_eq_true h
    refine ⟨.inr e, .inl ?_⟩
    have e2 : scope.names.lookup x = some .cell := of_decide_eq_true h2
    show (scope.names.lookup x == some .cell) = true
    rw [e2]
    rfl
theorem tkD_ok (h : ∀ x, X.fn x = true) : TkOk X (tkD X.env.scope) := by
  intro x e
  unfold tkD lkB at e
  rw [Bool.or_eq_true] at e
  rcases e with e | e
  · exact ⟨.inl (of_decide_eq_true e), .inl (h x)⟩
  · exact ⟨.inr (of_decide_eq_true e), .inl (h x)⟩
theorem assignEach_cons {e : Expr} (h : nStar e = true) (es : List Expr) (env : PySem.Env) : assignEach (e :: es) env = (false, assign e env) :: assignEach es env := by
  cases e <;> first | rfl | cases h
theorem mtT_star {N : List Str} {tk : Str → Bool} {t : Tg} {e : Expr} (h : mtT N tk t e = true) : nStar e = true := by
  cases t <;> cases e <;> first | rfl | cases h
theorem mtTs_each {N : List Str} {tk : Str → Bool} (env : PySem.Env) : ∀ {ts : List Tg} {es : List Expr}, mtTs N tk ts es = true → (assignEach es env).length = ts.length ∧ (assignEach es env).findIdx? (·.1) = none
  | [], [], _ => ⟨rfl, rfl⟩
  | t :: ts, e :: es, h => by
    unfold mtTs at h
    rw [Bool.and_eq_true] at h
    obtain ⟨h1, h2⟩ := mtTs_each env h.2
    rw [assignEach_cons (mtT_star h.1)]
    refine ⟨by rw [List.length_cons, List.length_cons, h1], ?_⟩
    rw [List.findIdx?_cons, h2]
    rfl
  | [], _ :: _, h => by cases h
  | _ :: _, [], h => by cases h
mutual
theorem sG {X : Cx} (hc : X.calm = true) (nd : X.N.Nodup) {tk : Str → Bool} (T : TkOk X tk) : ∀ (t : Tg) (e : Expr), mtT X.N tk t e = true → PG X e (LG X t)
  | .nm i, .Name x p, h => by
    unfold mtT at h
    rw [Bool.and_eq_true] at h
    obtain ⟨h1, h2⟩ := T x h.2
    exact zg_name nd (of_decide_eq_true h.1) h1 h2
  | .tp ts, .Tuple es k p, h => by
    unfold mtT at h
    obtain ⟨h1, h2⟩ := mtTs_each X.env h
    exact zg_tup hc (sGs hc nd T ts es h) h1 h2
  | .nm _, .BoolOp _ _ _, h => by cases h
  | .nm _, .NamedExpr _ _ _, h => by cases h
  | .nm _, .BinOp _ _ _ _, h => by cases h
  | .nm _, .UnaryOp _ _ _, h => by cases h
  | .nm _, .Lambda _ _ _ _, h => by cases h
  | .nm _, .IfExp _ _ _ _, h => by cases h
  | .nm _, .Dict _ _ _, h => by cases h
  | .nm _, .Set _ _ _, h => by cases h
  | .nm _, .ListComp _ _ _ _, h => by cases h
  | .nm _, .SetComp _ _ _ _, h => by cases h
  | .nm _, .DictComp _ _ _ _ _, h => by cases h
  | .nm _, .GeneratorExp _ _ _ _, h => by cases h
  | .nm _, .Await _ _, h => by cases h
  | .nm _, .Yield _ _, h => by cases h
  | .nm _, .YieldFrom _ _, h => by cases h
  | .nm _, .Compare _ _ _ _, h => by cases h
  | .nm _, .Call _ _ _ _, h => by cases h
  | .nm _, .FormattedValue _ _ _ _, h => by cases h
  | .nm _, .JoinedStr _ _, h => by cases h
  | .nm _, .Constant _ _ _, h => by cases h
  | .nm _, .Attribute _ _ _, h => by cases h
  | .nm _, .Subscript _ _ _, h => by cases h
  | .nm _, .Starred _ _, h => by cases h
  | .nm _, .List _ _, h => by cases h
  | .nm _, .Tuple _ _ _, h => by cases h
  | .nm _, .Slice _ _ _ _, h => by cases h
  | .tp _, .BoolOp _ _ _, h => by cases h
  | .tp _, .NamedExpr _ _ _, h => by cases h
  | .tp _, .BinOp _ _ _ _, h => by cases h
  | .tp _, .UnaryOp _ _ _, h => by cases h
  | .tp _, .Lambda _ _ _ _, h => by cases h
  | .tp _, .IfExp _ _ _ _, h => by cases h
  | .tp _, .Dict _ _ _, h => by cases h
  | .tp _, .Set _ _ _, h => by cases h
  | .tp _, .ListComp _ _ _ _, h => by cases h
  | .tp _, .SetComp _ _ _ _, h => by cases h
  | .tp _, .DictComp _ _ _ _ _, h => by cases h
  | .tp _, .GeneratorExp _ _ _ _, h => by cases h
  | .tp _, .Await _ _, h => by cases h
  | .tp _, .Yield _ _, h => by cases h
  | .tp _, .YieldFrom _ _, h => by cases h
  | .tp _, .Compare _ _ _ _, h => by cases h
  | .tp _, .Call _ _ _ _, h => by cases h
  | .tp _, .FormattedValue _ _ _ _, h => by cases h
  | .tp _, .JoinedStr _ _, h => by cases h
  | .tp _, .Constant _ _ _, h => by cases h
  | .tp _, .Attribute _ _ _, h => by cases h
  | .tp _, .Subscript _ _ _, h => by cases h
  | .tp _, .Starred _ _, h => by cases h
  | .tp _, .Name _ _, h => by cases h
  | .tp _, .List _ _, h => by cases h
  | .tp _, .Slice _ _ _ _, h => by cases h
theorem sGs {X : Cx} (hc : X.calm = true) (nd : X.N.Nodup) {tk : Str → Bool} (T : TkOk X tk) : ∀ (ts : List Tg) (es : List Expr), mtTs X.N tk ts es = true → PGs X es (LGs X ts)
  | [], [], _ => zgs_nil
  | t :: ts, e :: es, h => by
    unfold mtTs at h
    rw [Bool.and_eq_true] at h
    exact zgs_cons (sG hc nd T t e h.1) (sGs hc nd T ts es h.2) (by rw [assignEach_cons (mtT_star h.1)]; rfl)
  | [], _ :: _, h => by cases h
  | _ :: _, [], h => by cases h
end

theorem beq_str {x y : Str} (h : (x == y) = true) : x = y := by simpa using h
theorem mtEs_star {nm : List Cn} {cs : List (Str × PV)} {N : List Str} {sc : Scope} : ∀ {xs : List Ex} {es : List Expr}, mtEs nm cs N sc xs es = true → ∀ a ∈ es, nStar a = true
  | [], [], _ => fun a h => by cases h
  | x :: xs, e :: es, h => by
    unfold mtEs at h
    rw [Bool.and_eq_true, Bool.and_eq_true] at h
    intro a ha
    rcases List.mem_cons.mp ha with rfl | ha
    · exact h.1.1
    · exact mtEs_star h.2 a ha
  | [], _ :: _, h => by unfold mtEs at h; cases h
  | _ :: _, [], h => by unfold mtEs at h; cases h
theorem mtEs_nil {nm : List Cn} {cs : List (Str × PV)} {N : List Str} {sc : Scope} {xs : List Ex} {es : List Expr} (h : mtEs nm cs N sc xs es = true) (e : es = []) : xs = [] := by
  subst e
  cases xs with
  | nil => rfl
  | cons x xs => unfold mtEs at h; cases h

def SE (Γ : List Spec) (nm : List Cn) (cs : List (Str × PV)) (x : Ex) : Prop := ∀ (X : Cx) (W : WX) (e : Expr), Good X W nm cs Γ → mtE nm cs X.N X.env.scope x e = true → PE X e (LE X W (wE Γ x))
def ST (Γ : List Spec) (nm : List Cn) (cs : List (Str × PV)) (x : Ex) : Prop := ∀ (X : Cx) (W : WX) (e : Expr), Good X W nm cs Γ → mtE nm cs X.N X.env.scope x e = true → PT X e (LT X W (wT Γ x))
def SW (Γ : List Spec) (nm : List Cn) (cs : List (Str × PV)) (x : Ex) : Prop := ∀ (X : Cx) (W : WX) (op : BoolOp) (vs : List Expr) (pos : Pos), Good X W nm cs Γ → mtE nm cs X.N X.env.scope x (.BoolOp op vs pos) = true → PW X (.BoolOp op vs pos) (LT X W (wT Γ x))
def SEs (Γ : List Spec) (nm : List Cn) (cs : List (Str × PV)) (xs : List Ex) : Prop := ∀ (X : Cx) (W : WX) (es : List Expr), Good X W nm cs Γ → mtEs nm cs X.N X.env.scope xs es = true → PA X es (LA X W (wEs Γ xs))
def SO (Γ : List Spec) (nm : List Cn) (cs : List (Str × PV)) (x : Option Ex) : Prop := ∀ (X : Cx) (W : WX) (e : Option Expr), Good X W nm cs Γ → mtO nm cs X.N X.env.scope x e = true → PO X e (LO X W (wO Γ x))
def SI (Γ : List Spec) (nm : List Cn) (cs : List (Str × PV)) (x : Ex) : Prop := ∀ (X : Cx) (W : WX) (tg e : Expr), Good X W nm cs Γ → mtI nm cs X.N X.env.scope x tg e = true → PI X tg e (LI X W (wI Γ x))

/-- the plain tests: from the value -/
def tPlain : Expr → Bool
  | .BoolOp .. => false
  | .UnaryOp .Not .. => false
  | .IfExp .. => false
  | .Compare .. => false
  | _ => true
theorem isTrue_of {e : Expr} (h : tPlain e = true) (env : PySem.Env) (whole : Sem Value) : isTrue e env whole = (do let v ← whole; standAt e.pos; holding [v] (truthy v)) := by
  cases e with
  | UnaryOp op x p => cases op <;> first | rfl | cases h
  | _ => first | rfl | cases h

section
variable {x y z : Ex} {xs : List Ex}
theorem ok_var {i : Nat} : SE Γ nm cs (.var i) := fun X W e G h => by
  cases e with
  | Name x p =>
    have h : (decide (X.N[i]? = some x) && visB X.env.scope x && !(x == ("__debug__" : Str)) && !(x == ("__classdict__" : Str))) = true := h
    simp only [Bool.and_eq_true, Bool.not_eq_true'] at h
    obtain ⟨⟨⟨h1, h2⟩, h3⟩, h4⟩ := h
    exact ze_var (of_decide_eq_true h1) (vis_of h2) h3 h4 Γ
  | _ => cases h
theorem ok_non : SE Γ nm cs .non := fun X W e G h => by
  cases e with
  | Constant c j p =>
    cases c with
    | none => exact ze_c pe_non (v := .non) (fun _ _ _ _ w => w) fun _ _ => rfl
    | _ => cases h
  | _ => cases h
theorem ok_bl {b : Bool} : SE Γ nm cs (.bl b) := fun X W e G h => by
  cases e with
  | Constant c j p =>
    cases c with
    | bool c =>
      have h : (b == c) = true := h
      obtain rfl : b = c := by simpa using h
      exact ze_c pe_bl (v := .bl b) (fun _ _ _ _ w => w) fun _ _ => rfl
    | _ => cases h
  | _ => cases h
theorem ok_int {b : Int} : SE Γ nm cs (.int b) := fun X W e G h => by
  cases e with
  | Constant c j p =>
    cases c with
    | int c =>
      have h : (b == c) = true := h
      obtain rfl : b = c := by simpa using h
      exact ze_c pe_int (v := .int b) (fun _ _ _ _ w => w) fun _ _ => rfl
    | _ => cases h
  | _ => cases h
theorem ok_str {b : Str} : SE Γ nm cs (.str b) := fun X W e G h => by
  cases e with
  | Constant c j p =>
    cases c with
    | str c =>
      have h : (b == c) = true := h
      obtain rfl := beq_str h
      exact ze_c pe_str (v := .str b) (fun _ _ _ _ w => w) fun _ _ => rfl
    | _ => cases h
  | _ => cases h
theorem ok_con {x : Str} {v : PV} : SE Γ nm cs (.con x v) := fun X W e G h => by
  cases e with
  | Name y p =>
    have h : (x == y && glB X.env.scope y && cs.any fun p => p.1 == y && p.2.same v) = true := h
    simp only [Bool.and_eq_true, List.any_eq_true] at h
    obtain ⟨⟨h1, h2⟩, ⟨y', v'⟩, hm, h3, h4⟩ := h
    obtain rfl := beq_str h3
    obtain rfl := PV.same_eq h4
    obtain ⟨u, t, hu, hr, hp⟩ := G.cn _ hm
    obtain ⟨g1, g2⟩ := gl_of h2
    exact ze_c (pe_glob g1 hu hr g2) (fun _ _ _ _ w => w) fun ρ H => hp ρ H
  | _ => cases h
theorem ok_bin {o : Operator} (hx : SE Γ nm cs x) (hy : SE Γ nm cs y) : SE Γ nm cs (.bin o x y) := fun X W e G h => by
  cases e with
  | BinOp l p r pos =>
    have h : (decide (o = p) && mtE nm cs X.N X.env.scope x l && mtE nm cs X.N X.env.scope y r) = true := h
    simp only [Bool.and_eq_true] at h
    obtain ⟨⟨h1, h2⟩, h3⟩ := h
    obtain rfl := of_decide_eq_true h1
    exact ze_bin (hx X W l G h2) (hy X W r G h3)
  | _ => cases h
theorem ok_neg (hx : SE Γ nm cs x) : SE Γ nm cs (.neg x) := fun X W e G h => by
  cases e with
  | UnaryOp op l p =>
    cases op with
    | USub => exact ze_neg (hx X W l G h)
    | _ => cases h
  | _ => cases h
theorem ok_not (hx : SE Γ nm cs x) : SE Γ nm cs (.not x) := fun X W e G h => by
  cases e with
  | UnaryOp op l p =>
    cases op with
    | Not => exact ze_not (hx X W l G h)
    | _ => cases h
  | _ => cases h
theorem ok_and (hx : SE Γ nm cs x) (hy : SE Γ nm cs y) : SE Γ nm cs (.and x y) := fun X W e G h => by
  cases e with
  | BoolOp op vs pos =>
    match op, vs, h with
    | .And, [a, b], h =>
      have h : (mtE nm cs X.N X.env.scope x a && mtE nm cs X.N X.env.scope y b) = true := h
      simp only [Bool.and_eq_true] at h
      exact ze_and (hx X W a G h.1) (ze_one (hy X W b G h.2))
    | .And, a :: b :: c :: r, h =>
      have h : (mtE nm cs X.N X.env.scope x a && mtE nm cs X.N X.env.scope y (.BoolOp .And (b :: c :: r) pos)) = true := h
      simp only [Bool.and_eq_true] at h
      exact ze_and (hx X W a G h.1) (hy X W _ G h.2)
    | .And, [], h => cases h
    | .And, [_], h => cases h
    | .Or, _, h => cases h
  | _ => cases h
theorem ok_or (hx : SE Γ nm cs x) (hy : SE Γ nm cs y) : SE Γ nm cs (.or x y) := fun X W e G h => by
  cases e with
  | BoolOp op vs pos =>
    match op, vs, h with
    | .Or, [a, b], h =>
      have h : (mtE nm cs X.N X.env.scope x a && mtE nm cs X.N X.env.scope y b) = true := h
      simp only [Bool.and_eq_true] at h
      exact ze_or (hx X W a G h.1) (ze_one (hy X W b G h.2))
    | .Or, a :: b :: c :: r, h =>
      have h : (mtE nm cs X.N X.env.scope x a && mtE nm cs X.N X.env.scope y (.BoolOp .Or (b :: c :: r) pos)) = true := h
      simp only [Bool.and_eq_true] at h
      exact ze_or (hx X W a G h.1) (hy X W _ G h.2)
    | .Or, [], h => cases h
    | .Or, [_], h => cases h
    | .And, _, h => cases h
  | _ => cases h
theorem ow_and (hx : ST Γ nm cs x) (hy : ST Γ nm cs y) (hw : SW Γ nm cs y) : SW Γ nm cs (.and x y) := fun X W op vs pos G h => by
  match op, vs, h with
  | .And, [a, b], h =>
    have h : (mtE nm cs X.N X.env.scope x a && mtE nm cs X.N X.env.scope y b) = true := h
    simp only [Bool.and_eq_true] at h
    exact zw_and (hx X W a G h.1) (pw_and1 (hy X W b G h.2))
  | .And, a :: b :: c :: r, h =>
    have h : (mtE nm cs X.N X.env.scope x a && mtE nm cs X.N X.env.scope y (.BoolOp .And (b :: c :: r) pos)) = true := h
    simp only [Bool.and_eq_true] at h
    exact zw_and (hx X W a G h.1) (hw X W _ _ _ G h.2)
  | .And, [], h => cases h
  | .And, [_], h => cases h
  | .Or, _, h => cases h
theorem ow_or (hx : ST Γ nm cs x) (hy : ST Γ nm cs y) (hw : SW Γ nm cs y) : SW Γ nm cs (.or x y) := fun X W op vs pos G h => by
  match op, vs, h with
  | .Or, [a, b], h =>
    have h : (mtE nm cs X.N X.env.scope x a && mtE nm cs X.N X.env.scope y b) = true := h
    simp only [Bool.and_eq_true] at h
    exact zw_or (hx X W a G h.1) (pw_or1 (hy X W b G h.2))
  | .Or, a :: b :: c :: r, h =>
    have h : (mtE nm cs X.N X.env.scope x a && mtE nm cs X.N X.env.scope y (.BoolOp .Or (b :: c :: r) pos)) = true := h
    simp only [Bool.and_eq_true] at h
    exact zw_or (hx X W a G h.1) (hw X W _ _ _ G h.2)
  | .Or, [], h => cases h
  | .Or, [_], h => cases h
  | .And, _, h => cases h
theorem ot_bool (hw : SW Γ nm cs x) (hb : ∀ N sc e, mtE nm cs N sc x e = true → ∃ op vs pos, e = .BoolOp op vs pos) : ST Γ nm cs x := fun X W e G h => by
  obtain ⟨op, vs, pos, rfl⟩ := hb _ _ _ h
  exact (hw X W op vs pos G h).pt
theorem and_bool : ∀ (N : List Str) (sc : Scope) (e : Expr), mtE nm cs N sc (.and x y) e = true → ∃ op vs pos, e = .BoolOp op vs pos := fun N sc e h => by
  cases e with
  | BoolOp op vs pos => exact ⟨op, vs, pos, rfl⟩
  | _ => cases h
theorem or_bool : ∀ (N : List Str) (sc : Scope) (e : Expr), mtE nm cs N sc (.or x y) e = true → ∃ op vs pos, e = .BoolOp op vs pos := fun N sc e h => by
  cases e with
  | BoolOp op vs pos => exact ⟨op, vs, pos, rfl⟩
  | _ => cases h
theorem ok_ife (hx : ST Γ nm cs x) (hy : SE Γ nm cs y) (hz : SE Γ nm cs z) : SE Γ nm cs (.ife x y z) := fun X W e G h => by
  cases e with
  | IfExp a b c pos =>
    have h : (mtE nm cs X.N X.env.scope x a && mtE nm cs X.N X.env.scope y b && mtE nm cs X.N X.env.scope z c) = true := h
    simp only [Bool.and_eq_true] at h
    exact ze_ife (hx X W a G h.1.1) (hy X W b G h.1.2) (hz X W c G h.2)
  | _ => cases h
theorem ot_ife (hx : ST Γ nm cs x) (hy : ST Γ nm cs y) (hz : ST Γ nm cs z) : ST Γ nm cs (.ife x y z) := fun X W e G h => by
  cases e with
  | IfExp a b c pos =>
    have h : (mtE nm cs X.N X.env.scope x a && mtE nm cs X.N X.env.scope y b && mtE nm cs X.N X.env.scope z c) = true := h
    simp only [Bool.and_eq_true] at h
    exact zt_ife (hx X W a G h.1.1) (hy X W b G h.1.2) (hz X W c G h.2)
  | _ => cases h
theorem ot_not (hx : ST Γ nm cs x) : ST Γ nm cs (.not x) := fun X W e G h => by
  cases e with
  | UnaryOp op l p =>
    cases op with
    | Not => exact zt_not (hx X W l G h)
    | _ => cases h
  | _ => cases h
theorem cmp_inv {o : CmpOp} {N : List Str} {sc : Scope} {e : Expr} (h : mtE nm cs N sc (.cmp o x y) e = true) : ∃ l r pos, e = .Compare l [o] [r] pos ∧ nSet r = true ∧ mtE nm cs N sc x l = true ∧ mtE nm cs N sc y r = true := by
  cases e with
  | Compare l ops rs pos =>
    match ops, rs, h with
    | [p], [r], h =>
      have h : (decide (o = p) && nSet r && mtE nm cs N sc x l && mtE nm cs N sc y r) = true := h
      simp only [Bool.and_eq_true] at h
      obtain rfl := of_decide_eq_true h.1.1.1
      exact ⟨l, r, pos, rfl, h.1.1.2, h.1.2, h.2⟩
    | [], _, h => cases h
    | [_], [], h => cases h
    | [_], _ :: _ :: _, h => cases h
    | _ :: _ :: _, _, h => cases h
  | _ => cases h
theorem ok_cmp {o : CmpOp} (hx : SE Γ nm cs x) (hy : SE Γ nm cs y) : SE Γ nm cs (.cmp o x y) := fun X W e G h => by
  obtain ⟨l, r, pos, rfl, h1, h2, h3⟩ := cmp_inv h
  exact ze_cmp G.un (hx X W l G h2) (hy X W r G h3) (marks_of h1)
theorem ot_cmp {o : CmpOp} (hx : SE Γ nm cs x) (hy : SE Γ nm cs y) : ST Γ nm cs (.cmp o x y) := fun X W e G h => by
  obtain ⟨l, r, pos, rfl, h1, h2, h3⟩ := cmp_inv h
  exact zt_cmp G.un (hx X W l G h2) (hy X W r G h3) (marks_of h1)
theorem chn_inv {o o' : CmpOp} {N : List Str} {sc : Scope} {e : Expr} (h : mtE nm cs N sc (.chn o o' x y z) e = true) : ∃ l r t pos, e = .Compare l [o, o'] [r, t] pos ∧ nSet t = true ∧ mtE nm cs N sc x l = true ∧ mtE nm cs N sc y r = true ∧ mtE nm cs N sc z t = true := by
  cases e with
  | Compare l ops rs pos =>
    match ops, rs, h with
    | [p, p'], [r, t], h =>
      have h : (decide (o = p) && decide (o' = p') && nSet t && mtE nm cs N sc x l && mtE nm cs N sc y r && mtE nm cs N sc z t) = true := h
      simp only [Bool.and_eq_true] at h
      obtain rfl := of_decide_eq_true h.1.1.1.1.1
      obtain rfl := of_decide_eq_true h.1.1.1.1.2
      exact ⟨l, r, t, pos, rfl, h.1.1.1.2, h.1.1.2, h.1.2, h.2⟩
    | [], _, h => cases h
    | [_], _, h => cases h
    | [_, _], [], h => cases h
    | [_, _], [_], h => cases h
    | [_, _], _ :: _ :: _ :: _, h => cases h
    | _ :: _ :: _ :: _, _, h => cases h
  | _ => cases h
theorem ok_chn {o o' : CmpOp} (hx : SE Γ nm cs x) (hy : SE Γ nm cs y) (hz : SE Γ nm cs z) : SE Γ nm cs (.chn o o' x y z) := fun X W e G h => by
  obtain ⟨l, r, t, pos, rfl, h1, h2, h3, h4⟩ := chn_inv h
  exact ze_chn G.un (hx X W l G h2) (hy X W r G h3) (hz X W t G h4) (marks2_of h1)
theorem ot_chn {o o' : CmpOp} (hx : SE Γ nm cs x) (hy : SE Γ nm cs y) (hz : SE Γ nm cs z) : ST Γ nm cs (.chn o o' x y z) := fun X W e G h => by
  obtain ⟨l, r, t, pos, rfl, h1, h2, h3, h4⟩ := chn_inv h
  exact zt_chn G.un (hx X W l G h2) (hy X W r G h3) (hz X W t G h4) (marks2_of h1)
theorem ok_tup (hs : SEs Γ nm cs xs) : SE Γ nm cs (.tup xs) := fun X W e G h => by
  cases e with
  | Tuple es k pos => exact ze_tup (hs X W es G h)
  | _ => cases h
theorem ok_xtp (hs : SEs Γ nm cs xs) : SE Γ nm cs (.xtp xs) := fun X W e G h => by
  cases e with
  | Tuple es k pos => exact ze_xtp (hs X W es G h)
  | _ => cases h
theorem ok_lst (hs : SEs Γ nm cs xs) : SE Γ nm cs (.lst xs) := fun X W e G h => by
  cases e with
  | List es pos => exact ze_lst (hs X W es G h)
  | _ => cases h
theorem ok_dct : SE Γ nm cs .dct := fun X W e G h => by
  cases e with
  | Dict ks vs pos =>
    match ks, vs, h with
    | [], [], h => exact ze_dct
    | _ :: _, _, h => cases h
    | [], _ :: _, h => cases h
  | _ => cases h
theorem ok_idx (hx : SE Γ nm cs x) (hy : SE Γ nm cs y) : SE Γ nm cs (.idx x y) := fun X W e G h => by
  cases e with
  | Subscript l j pos =>
    have h : (nSlice j && mtE nm cs X.N X.env.scope x l && mtE nm cs X.N X.env.scope y j) = true := h
    simp only [Bool.and_eq_true] at h
    exact ze_idx (by have := G.un; omega) (hx X W l G h.1.2) (hy X W j G h.2) (plain_ix h.1.1)
  | _ => cases h
theorem ok_slc {lo hi : Option Ex} (hx : SE Γ nm cs x) (hl : SO Γ nm cs lo) (hh : SO Γ nm cs hi) : SE Γ nm cs (.slc x lo hi) := fun X W e G h => by
  cases e with
  | Subscript l j pos =>
    cases j with
    | Slice p q st pos2 =>
      cases st with
      | none =>
        have h : (mtE nm cs X.N X.env.scope x l && mtO nm cs X.N X.env.scope lo p && mtO nm cs X.N X.env.scope hi q) = true := h
        simp only [Bool.and_eq_true] at h
        exact ze_slc (hx X W l G h.1.1) (hl X W p G h.1.2) (hh X W q G h.2)
      | some _ => cases h
    | _ => cases h
  | _ => cases h
theorem ok_call {i : Nat} (hs : SEs Γ nm cs xs) : SE Γ nm cs (.call i xs) := fun X W e G h => by
  cases e with
  | Call f as ks pos =>
    cases f with
    | Name g p =>
      cases ks with
      | nil =>
        have h : (decide (nm[i]? = some (.fn g)) && glB X.env.scope g && mtEs nm cs X.N X.env.scope xs as) = true := h
        simp only [Bool.and_eq_true] at h
        obtain ⟨⟨h1, h2⟩, h3⟩ := h
        obtain ⟨S, hS, fr⟩ := G.fn i (.fn g) (of_decide_eq_true h1)
        obtain ⟨g1, g2⟩ := gl_of h2
        exact ze_call fr hS G.tk g1 g2 (hs X W as G h3) (mtEs_nil h3) fun a ha r => star_of (mtEs_star h3 a ha) r X.env
      | cons _ _ => cases h
    | _ => cases h
  | _ => cases h
end
end
end Z

/-! ZsT: soundness of list(d.items()), sorted(d.items()), list(zip(a, b)). -/
namespace Z
open PySem PyProof.Rows L2
section
variable {K : PySem.W.Frag} {mg : Str → Option Value} {ρ : List Addr} {h : Hep} {H : Hp}
end
section
variable {X : Cx} {W : WX} {Γ : List Spec} {a b : Expr} {x y : Ex} {p p2 q apos pos : Pos}
end
end Z

/-! ZsU: a lambda without parameters, made for a def that calls it. -/
namespace Z
open PySem PyProof.Rows L2

/-- the heap behind a lambda's making: its code object is in the table, or new -/
def NewC (H H1 : Hp) (P c' : Addr) (q : Str) : Prop :=
  LamX.TabS H1 P q ∧ H1 c' = some (LamX.CodeO c' q) ∧ (H1 = H ∨ ∃ ps ps', H P = some (.tbl ps) ∧ H c' = none ∧ H1 = upd (upd H P (.tbl ps')) c' (LamX.CodeO c' q))

theorem lam_new {X : Cx} {pins : List (Addr × Obj)} {σ : L2.St} {H : Hp} {s : Shared} {c P : Addr} {q : Str} {ar : Arguments} {bd : Expr} {sc : Scope} {lp : Pos} {E Q : Value → Shared → Prop} (J : Inv X pins σ H s) (B : LamX.TabB X.base X.mg c P)
    (ec : X.env.code = .ref c) (eq : X.env.qual ++ "<lambda>" = q) (T : LamX.TabS H P q) (nd : defaultsOf ar X.env = ([], [])) (fr : ∀ y ∈ sc.names, y.2 = .free → ∃ c, X.env.cells.lookup y.1 = some c)
    (K : ∀ (f c' : Addr) (pm ctv : Value) (H1 : Hp) (s' : Shared), Inv X pins σ H1 s' → NewC H H1 P c' q →
      s'.heap.get? f = some (PySem.W.kla_obj "<lambda>" q ar bd sc (cloFrom X.env.cells sc.names []) pm c' ctv) → H1 f = none → f ∉ frs X.stack → s.heap.objs.size ≤ f → Q (.ref f) s') :
    wpAny (model X.prog X.w) X.A (eval (.Lambda ar bd sc lp) X.env) Q E s := by
  subst eq
  have T0 := T
  obtain ⟨ps, tP, tO, tA⟩ := T
  refine PySem.W.kla_eval nd ?_
  have bi : s.heap.BuiltinsAt X.mg P := B.bm.keeps J.bk
  have at0 : s.heap.get? P = some { cls := .none, data := .fields ps } := J.hok P _ tP
  have nofr : ∀ f, s.heap.objs.size ≤ f → f ∉ frs X.stack := fun f lf z => by
    rcases List.mem_cons.mp (J.stkSub _ z) with e | e
    · have l1 := J.lt
      rw [← e] at l1
      exact Nat.lt_irrefl _ (Nat.lt_of_lt_of_le l1 lf)
    · exact J.nofs lf e
  cases fc : codeAmong lp ps.toList with
  | some cv =>
    obtain ⟨c', rfl, co⟩ := tA lp cv fc
    refine PySem.W.kla_makeFunctionHit (mg := X.mg) (c := c) (P := P) (ps := ps) (closure_ok fr) J.ok.glob (J.mod.glob.keeps J.bk) ec (B.code.keeps J.bk) at0 tO fc bi fun ctv h' t' hx hs => ?_
    have J1 : Inv X pins σ H { s with heap := h'.push (PySem.W.kla_obj "<lambda>" (X.env.qual ++ "<lambda>") ar bd sc (cloFrom X.env.cells sc.names []) ((X.mg "__name__").getD .none) c' ctv), toks := t' } :=
      J.kept fun b o eb => Heap.get?_push_of_some _ (hx b o eb)
    exact K h'.objs.size c' _ ctv H _ J1 ⟨T0, co, .inl rfl⟩ (Heap.get?_push_size _ rfl) (J.hok.fresh hs) (nofr _ hs) hs
  | none =>
    refine PySem.W.kla_makeFunction (mg := X.mg) (c := c) (P := P) (ps := ps) (closure_ok fr) J.ok.glob (J.mod.glob.keeps J.bk) ec (B.code.keeps J.bk) at0 tO fc B.gP bi fun c' ctv h' t' hx ge lt rec htb => ?_
    obtain ⟨c2, oc, vs, tok, e2, ho, hd, hv⟩ := rec
    cases e2
    have gs : s.heap.objs.size ≤ h'.objs.size := by omega
    have nC : H c' = none := J.hok.fresh ge
    have J1 := LamX.inv_table (t' := t') (more := #[rawInt lp.line, rawInt lp.col, .ref c']) (h' := h'.push (PySem.W.kla_obj "<lambda>" (X.env.qual ++ "<lambda>") ar bd sc (cloFrom X.env.cells sc.names []) ((X.mg "__name__").getD .none) c' ctv)) J tP
      (fun b o hb eb => Heap.get?_push_of_some _ (hx b o hb eb)) (Heap.get?_push_of_some _ htb) ge ⟨oc, vs, tok, Heap.get?_push_of_some _ ho, hd, hv⟩
    have ap : (ps ++ #[rawInt lp.line, rawInt lp.col, .ref c']).toList = ps.toList ++ [rawInt lp.line, rawInt lp.col, .ref c'] := by simp
    have nP : P ≠ c' := fun z => by rw [z, nC] at tP; cases tP
    have keep : ∀ d, H d = some (LamX.CodeO d (X.env.qual ++ "<lambda>")) → upd (upd H P (.tbl (ps ++ #[rawInt lp.line, rawInt lp.col, .ref c']))) c' (LamX.CodeO c' (X.env.qual ++ "<lambda>")) d = some (LamX.CodeO d (X.env.qual ++ "<lambda>")) := fun d hd => by
      rw [upd_ne (fun z => by rw [z, nC] at hd; cases hd), upd_ne (fun z => by rw [z, tP] at hd; exact LamX.codeO_ne _ (Option.some.inj hd).symm)]
      exact hd
    refine K h'.objs.size c' ((X.mg "__name__").getD .none) ctv _ _ J1 ⟨⟨_, by rw [upd_ne nP, upd_same], by rw [ap]; exact PySem.TriplesOk_snoc _ _ _ _ tO, fun p2 cv hcv => ?_⟩, upd_same, .inr ⟨_, _, tP, nC, rfl⟩⟩ (Heap.get?_push_size _ rfl) ?_ (nofr _ gs) gs
    · rw [ap] at hcv
      rcases LamX.among_app _ tO hcv with z | z
      · obtain ⟨c0, e1, e3⟩ := tA p2 cv z
        exact ⟨c0, e1, keep c0 e3⟩
      · exact ⟨c', z, upd_same⟩
    · rw [upd_ne (Nat.ne_of_gt lt), upd_ne (Nat.ne_of_gt (Nat.lt_of_lt_of_le (Heap.lt_size at0) gs))]
      exact J.hok.fresh gs

section
variable {K : PySem.W.Frag} {mg : Str → Option Value} {ρ : List Addr} {h : Hep} {H H1 : Hp}
theorem HR.newC {i : Nat} {P c' : Addr} {q : Str} (r : HR K mg ρ h H) (e : h[i]? = some (.tab P q)) (n : NewC H H1 P c' q) : HR K mg ρ h H1 ∧ Nx ρ H ρ H1 := by
  obtain ⟨t, co, hh⟩ := n
  rcases hh with rfl | ⟨ps, ps', tP, nC, rfl⟩
  · exact ⟨r, .refl⟩
  have hi : i < h.length := (List.getElem?_eq_some_iff.mp e).1
  have ei : ρ[i]? = some P := by
    have li : i < ρ.length := by rw [r.len]; exact hi
    have q := r.ob i _ ρ[i] e (List.getElem?_eq_getElem li)
    rw [List.getElem?_eq_getElem li, q.1]
  have mP : P ∈ ρ := List.mem_of_getElem? ei
  have ob : ∀ a, a ∈ ρ → a ≠ P → upd (upd H P (.tbl ps')) c' (LamX.CodeO c' q) a = H a := fun a ha na => by
    obtain ⟨o, q, _⟩ := r.mu ha
    rw [upd_ne (fun z => by rw [z, nC] at q; cases q), upd_ne na]
  have nx : Nx ρ H ρ (upd (upd H P (.tbl ps')) c' (LamX.CodeO c' q)) := by
    refine ⟨⟨[], by simp⟩, fun a o ha na => ?_, fun a h1 h2 => absurd h1 h2⟩
    rw [upd_ne (fun z => by rw [z, nC] at ha; cases ha), upd_ne (fun z => na (by rw [z]; exact mP))]
    exact ha
  refine ⟨⟨r.len, r.nd, fun j o a e1 e2 => ?_⟩, nx⟩
  have z := r.ob j o a e1 e2
  by_cases ea : a = P
  · subst ea
    have : j = i := by
      have lj := (List.getElem?_eq_some_iff.mp e2).1
      have li := (List.getElem?_eq_some_iff.mp ei).1
      have nd := r.nd
      rw [List.getElem?_eq_getElem lj] at e2
      rw [List.getElem?_eq_getElem li] at ei
      exact (List.getElem_inj nd).mp ((Option.some.inj e2).trans (Option.some.inj ei).symm)
    subst this
    rw [e] at e1
    cases e1
    exact ⟨rfl, t⟩
  · exact RepO.stay (r.stay nx) (ob a (List.mem_of_getElem? e2) ea) z
end

/-- the values of the slots that hold something -/
def pickV : Env → L2.St → List V
  | [], _ => []
  | none :: r, s => .non :: pickV r s.tail
  | some _ :: r, s => (s.headD none).getD .non :: pickV r s.tail
def pickZ (σz : Env) : List PV := σz.map (·.getD .non)
section
variable {K : PySem.W.Frag} {ρ : List Addr} {H : Hp}
theorem slots_reps : ∀ {σz : Env} {σ : L2.St}, (∀ (i : Nat) (x : PV), σz[i]? = some (some x) → ∃ v, σ[i]? = some (some v) ∧ Rep K ρ H x v) → Reps K ρ H (pickZ σz) (pickV σz σ)
  | [], _, _ => rfl
  | none :: r, σ, h => ⟨.non, _, rfl, rfl, slots_reps fun i x e => by
      obtain ⟨v, e1, q⟩ := h (i + 1) x (by simpa using e)
      exact ⟨v, by rw [List.getElem?_tail]; exact e1, q⟩⟩
  | some y :: r, σ, h => by
    obtain ⟨v, e1, q⟩ := h 0 y rfl
    refine ⟨_, _, rfl, ?_, slots_reps fun i x e => by
      obtain ⟨v, e1, q⟩ := h (i + 1) x (by simpa using e)
      exact ⟨v, by rw [List.getElem?_tail]; exact e1, q⟩⟩
    cases σ with
    | nil => cases e1
    | cons a s =>
      cases e1
      exact q
theorem reps_slots : ∀ {σz : Env} {σ : L2.St}, (∀ (i : Nat) (x : PV), σz[i]? = some (some x) → ∃ v, σ[i]? = some (some v)) → Reps K ρ H (pickZ σz) (pickV σz σ) → ∀ (i : Nat) (x : PV), σz[i]? = some (some x) → ∃ v, σ[i]? = some (some v) ∧ Rep K ρ H x v
  | [], _, _, _, i, x, e => by cases e
  | a :: r, σ, h, q, 0, x, e => by
    cases e
    obtain ⟨v, e1⟩ := h 0 x rfl
    obtain ⟨v', vs, e2, q1, q2⟩ := q
    cases σ with
    | nil => cases e1
    | cons b s =>
      cases e1
      cases e2
      exact ⟨v, rfl, q1⟩
  | a :: r, σ, h, q, i + 1, x, e => by
    obtain ⟨v', vs, e2, q1, q2⟩ := q
    have e2 : pickV r σ.tail = vs := by
      cases a <;> (cases e2; rfl)
    subst e2
    obtain ⟨v, e3, q3⟩ := reps_slots (σ := σ.tail) (fun j y ej => by
      obtain ⟨v, e4⟩ := h (j + 1) y (by simpa using ej)
      exact ⟨v, by rw [List.getElem?_tail]; exact e4⟩) q2 i x (by simpa using e)
    exact ⟨v, by rw [List.getElem?_tail] at e3; exact e3, q3⟩
end

theorem noPs_bind {a : Arguments} (h : noPs a = true) (q : Str) (bd : Expr) (sc : Scope) (cl : List (Str × Addr)) (pm cv ctv : Value) : bindArgs (PySem.W.kla_fn "<lambda>" q a bd sc cl pm cv ctv) ⟨[], []⟩ = pure [] := by
  obtain ⟨a1, a2, a3, a4, a5, a6, a7⟩ := a
  unfold noPs at h
  simp only [Bool.and_eq_true, List.isEmpty_iff, Option.isNone_iff_eq_none] at h
  obtain ⟨⟨⟨⟨⟨⟨rfl, rfl⟩, rfl⟩, rfl⟩, rfl⟩, rfl⟩, rfl⟩ := h
  rfl
theorem noPs_defs {a : Arguments} (h : noPs a = true) (env : PySem.Env) : defaultsOf a env = ([], []) := by
  obtain ⟨a1, a2, a3, a4, a5, a6, a7⟩ := a
  unfold noPs at h
  simp only [Bool.and_eq_true, List.isEmpty_iff, Option.isNone_iff_eq_none] at h
  obtain ⟨⟨⟨⟨⟨⟨rfl, rfl⟩, rfl⟩, rfl⟩, rfl⟩, rfl⟩, rfl⟩ := h
  rfl
theorem LE.tmp {X : Cx} {W : WX} {w : WE} {σ : L2.St} {H : Hp} {Q : VK} {A : Around} {outer : List PySem.Env} {s0 : Shared} {H0 : Hp} {E : XK} {sc : Scope} {f c' : Addr} (q : LE X W w σ H Q) : LE (LamX.lamCx X A outer s0 H0 E sc f c') W w σ H Q := by
  obtain ⟨ρ, σz, h, F, E', s, kq, kx, w⟩ := q
  exact ⟨ρ, σz, h, F, E', ⟨s.hr, s.len, s.sl⟩, kq, kx, w⟩

theorem no_excS {P : Program} {w : World} {out : List PySem.Env} {H : Hp} {s s1 : Shared} {e : Value} (z : L2.CX P w out H s (fun _ _ _ => False) e s1) : False := by
  obtain ⟨_, _, _, _, _, _, _, _, _, _, _, _, z⟩ := z
  exact z
section
variable {X : Cx} {W : WX} {nm : List Cn} {cs : List (Str × PV)} {Γ : List Spec}
/-- a callee is ready wherever there is room -/
theorem rdy_of {k : Nat} {g : Cn} {T : Spec} (q : CnR X.prog X.w X.K X.mg X.base k g T) (hr : Room k X.A) : Rdy X g T := by
  match g, q with
  | .fn _, q =>
    obtain ⟨f, fd, ps, j, sp, ds, dvs, h1, h2, h3, h4, h5, h6, h7⟩ := q
    exact ⟨f, fd, ps, j, sp, ds, dvs, h1, h2, .inl h3, hr.mono h4, h5, h6, h7⟩
  | .me _ _, q =>
    obtain ⟨C, f, fd, ps, j, sp, ds, dvs, h1, h2, h2', h3, h4, h5, h6, h7⟩ := q
    exact ⟨C, f, fd, ps, j, sp, ds, dvs, h1, h2, h2', h3, hr.mono h4, h5, h6, h7⟩
  | .mk _, q =>
    obtain ⟨C, f, fd, ps, j, sp, ds, dvs, h1, h2, h3, h4, h5, h6, h7⟩ := q
    exact ⟨C, f, fd, ps, j, sp, ds, dvs, h1, h2, h3, hr.mono h4, h5, h6, h7⟩
  | .cl _ _, q => exact q
  | .er _, q => exact q
  | .xs _ _, q => exact q
  | .xf _ _, q => exact q
  | .kd _ _, q => exact q
  | .gd, q => exact q.elim
  | .tk, q => exact q.elim
  | .ac, q => exact q.elim
  | .gs, q => exact q.elim
  | .ce, q => exact q.elim
  | .no, _ => exact trivial
  | .sa _, _ => exact trivial
  | .ei _ _, q =>
    obtain ⟨C, fI, fd, ps, j, h1, h2, h3, h4, h5, h6, h7, h8, h9⟩ := q
    exact ⟨C, fI, fd, ps, j, h1, h2, h3, h4, h5, h6, h7, hr.mono h8, h9⟩
/-- what a lambda's body leans on -/
theorem Good.lam {k : Nat} (G : Good X W nm cs Γ) (all : ∀ (i : Nat) (x : Cn), nm[i]? = some x → ∃ S, Γ[i]? = some S ∧ ((x = .tk ∨ x = .gd ∨ x = .ac ∨ x = .gs ∨ x = .ce) ∨ CnR X.prog X.w X.K X.mg X.base k x S))
    {A : Around} {outer : List PySem.Env} {s : Shared} {H : Hp} {E : XK} {sc : Scope} {f c' : Addr} (hr : Room k (A.deeper (LamX.lamEnv X sc s.heap.objs.size f c'))) :
    Good (LamX.lamCx X A outer s H E sc f c') (fun cls d _ H => E cls d H) (nm.map deL) cs Γ where
  calm := rfl
  nd := G.nd
  u2 := by have := hr.un; show (A.deeper _).units + 195 < cLine; omega
  tk := takes_of rfl rfl rfl rfl
  bl := G.bl
  fn := fun i x e => by
    rw [List.getElem?_map] at e
    cases g : nm[i]? with
    | none => rw [g] at e; cases e
    | some y =>
      rw [g] at e
      obtain rfl := Option.some.inj e
      obtain ⟨S, eS, q⟩ := all i y g
      refine ⟨S, eS, ?_⟩
      rcases q with (rfl | rfl | rfl | rfl | rfl) | q
      · exact trivial
      · exact trivial
      · exact trivial
      · exact trivial
      · exact trivial
      · have z := rdy_of (X := LamX.lamCx X A outer s H E sc f c') q hr
        cases y <;> first | exact z | exact trivial
  cn := G.cn
  lm := fun j e => by
    rw [List.getElem?_map] at e
    cases g : nm[j]? with
    | none => rw [g] at e; cases e
    | some y => rw [g] at e; cases y <;> cases e
theorem ok_act {j : Nat} : SE Γ nm cs (.act j) := fun X W e G h => by
  cases e with
  | Call f as ks pos =>
    cases f with
    | Name g p =>
      (cases as <;> try (cases h; done)); (cases ks <;> try (cases h; done))
      have h : (decide (nm[j]? = some .ac) && decide (X.N[0]? = some g)) = true := h
      simp only [Bool.and_eq_true, decide_eq_true_eq] at h
      obtain ⟨S, hS, rd⟩ := G.fn j .ac h.1
      refine pe_imp (rd X.pn X.xe W g p pos G.tk h.2) fun σ H Q q => ?_
      obtain ⟨ρ, σz, h, F, E, sr, kq, kx, w⟩ := q
      refine ⟨ρ, σz, h, F, E, sr, kq, kx, ?_⟩
      have w : (match σz[0]? with | some (some x) => (match Γ[j]? with | some S => S [x] h F E | none => False) | _ => False) := w
      rw [hS] at w
      split at w
      · rename_i x e
        exact ⟨x, e, w⟩
      · exact w.elim
    | _ => cases h
  | _ => cases h
end
end Z

/-! ZsV: repr of data with dicts in it. -/
namespace Z
open PySem PyProof.Rows L2

section
variable {X : Cx} {pins : List (Addr × Obj)} {σ : L2.St} {H : Hp} {s : Shared} {ρ : List Addr} {h : Hep}
end
section
variable {X : Cx} {W : WX} {nm : List Cn} {cs : List (Str × PV)} {Γ : List Spec} {x : Ex} {a : Expr} {p pos : Pos}
end
end Z

/-! ZsW: sorted(xs, key=lambda one: ..). -/
namespace Z
open PySem PyProof.Rows L2

section
variable {K : PySem.W.Frag} {mg : Str → Option Value} {ρ ρ' : List Addr} {h : Hep} {H H' : Hp}
/-- a list that isn't ours is let go -/
def dropH (H : Hp) (D : Addr) : Hp := fun b => if b = D then none else H b
theorem drop_ne {D a : Addr} (n : a ≠ D) : dropH H D a = H a := if_neg n
theorem stay_drop {D : Addr} {vs : List V} (e : H D = some (.lst vs)) : Stay K ρ H ρ (dropH H D) := by
  refine ⟨fun a us t => ?_, fun a us t => ?_, fun a us t => ?_, fun a cls d t => ?_, fun a fs t => ?_, fun c q t => ?_, fun f ob t => ?_, fun i a q => q⟩
  · have n : a ≠ D := ne_of (o := .tup us) (u := .lst vs) t e (by intro z; cases z)
    show dropH H D a = _
    rw [drop_ne n]
    exact t
  · rcases t with ⟨o, t⟩ | t
    · have n : a ≠ D := ne_of (o := .frz o (.lst us)) (u := .lst vs) t e (by intro z; cases z)
      refine .inl ⟨o, ?_⟩
      rw [drop_ne n]
      exact t
    · exact .inr t
  · rcases t with ⟨o, d, t⟩ | t
    · have n : a ≠ D := ne_of (o := .frz o (.tup us)) (u := .lst vs) t e (by intro z; cases z)
      refine .inl ⟨o, d, ?_⟩
      rw [drop_ne n]
      exact t
    · exact .inr t
  · have n : a ≠ D := ne_of (o := Zh.KeptX cls d a) (u := .lst vs) t e (by intro z; have z' : HO.ext _ = HO.lst vs := z; cases z')
    rw [drop_ne n]
    exact t
  · have n : a ≠ D := ne_of (o := .xd fs) (u := .lst vs) t e (by intro z; cases z)
    rw [drop_ne n]
    exact t
  · have n : c ≠ D := ne_of (o := LamX.CodeO c q) (u := .lst vs) t e (by intro z; have z' : HO.ext _ = HO.lst vs := z; cases z')
    rw [drop_ne n]
    exact t
  · have n : f ≠ D := ne_of (o := LamO f ob) (u := .lst vs) t e (by intro z; have z' : HO.ext _ = HO.lst vs := z; cases z')
    rw [drop_ne n]
    exact t
theorem HR.drop (r : HR K mg ρ h H) {D : Addr} {vs : List V} (e : H D = some (.lst vs)) (nD : D ∉ ρ) : HR K mg ρ h (dropH H D) :=
  ⟨r.len, r.nd, fun i o a h1 h2 => RepO.stay (stay_drop e) (drop_ne fun z => nD (z ▸ List.mem_of_getElem? h2)) (r.ob i o a h1 h2)⟩
theorem Nx.drop (n : Nx ρ H ρ' H') {D : Addr} (e : H D = none) : Nx ρ H ρ' (dropH H' D) :=
  ⟨n.pre, fun a u q z => by rw [drop_ne (ne_of_none q e)]; exact n.fr a u q z, n.nw⟩
end

section
variable {X : Cx} {W : WX} {nm : List Cn} {cs : List (Str × PV)} {Γ : List Spec}
end
end Z

/-! ZsX: d.setdefault, t.index of a tuple of texts, enumerate with a start. -/
namespace Z
open PySem PyProof.Rows L2
section
variable {X : Cx} {W : WX} {Γ : List Spec} {nm : List Cn} {cs : List (Str × PV)} {a b c : Expr} {x k dv : Ex} {pos : Pos}
end
end Z

/-! ZsY: a dict by texts that stands at the module's top: x in D, D[x] -/
namespace Z
open PySem PyProof.Rows L2
section
variable {X : Cx} {W : WX} {Γ : List Spec} {nm : List Cn} {cs : List (Str × PV)} {a b : Expr} {x k : Ex} {pos p : Pos}
end
end Z

/-! ZsM: soundness of expressions as a whole, second part. -/
namespace Z
open PySem PyProof.Rows L2

section
variable {nm : List Cn} {cs : List (Str × PV)} {Γ : List Spec} {x y z : Ex} {xs : List Ex}
theorem bi_inv {b : BI} {N : List Str} {sc : Scope} {e : Expr} (h : mtE nm cs N sc (.bi b xs) e = true) : ∃ f p as pos gs bs, e = .Call (.Name f p) as [] pos ∧ biForm b f as = some (gs, bs) ∧ (∀ g ∈ gs, glB sc g = true) ∧ mtEs nm cs N sc xs bs = true := by
  cases e with
  | Call f as ks pos =>
    cases f with
    | Name g p =>
      cases ks with
      | nil =>
        have h : (match biForm b g as with | some (gs, bs) => gs.all (glB sc) && mtEs nm cs N sc xs bs | none => false) = true := h
        cases e : biForm b g as with
        | none => rw [e] at h; cases h
        | some q =>
          obtain ⟨gs, bs⟩ := q
          rw [e] at h
          have h : (gs.all (glB sc) && mtEs nm cs N sc xs bs) = true := h
          rw [Bool.and_eq_true, List.all_eq_true] at h
          exact ⟨g, p, as, pos, gs, bs, rfl, e, h.1, h.2⟩
      | cons _ _ => cases h
    | _ => cases h
  | _ => cases h
/-- a built-in that no text has -/
theorem bi_no {b : BI} (hb : ∀ f as, biForm b f as = none) : SE Γ nm cs (.bi b xs) := fun X W e G h => by
  obtain ⟨f, p, as, pos, gs, bs, rfl, k, _, _⟩ := bi_inv h
  rw [hb] at k
  cases k
theorem nested_inv {as : List Expr} {α : Type} {k : Str → List Expr → Option α} {r : α} (h : (match as with | [.Call (.Name y _) bs [] _] => k y bs | _ => none) = some r) : ∃ y p bs q, as = [.Call (.Name y p) bs [] q] ∧ k y bs = some r := by
  (cases as <;> try (cases h; done)); rename_i a r
  (cases a <;> try (cases h; done)); rename_i f bs ks q
  (cases f <;> try (cases h; done)); rename_i y p
  (cases ks <;> try (cases h; done)); (cases r <;> try (cases h; done))
  exact ⟨y, p, bs, q, rfl, h⟩
theorem if_some {α : Type} {c : Bool} {a r : α} (h : (if c = true then some a else none) = some r) : c = true ∧ a = r := by
  cases c with
  | true => exact ⟨rfl, by simpa using h⟩
  | false => simp at h
theorem one_of {as : List Expr} (h : decide (as.length = 1) = true) : ∃ a, as = [a] := by
  match as, of_decide_eq_true h with
  | [a], _ => exact ⟨a, rfl⟩
theorem mtEs_one {N : List Str} {sc : Scope} {a : Expr} (h : mtEs nm cs N sc xs [a] = true) : ∃ x, xs = [x] ∧ nStar a = true ∧ mtE nm cs N sc x a = true := by
  match xs, h with
  | [x], h =>
    have h : (nStar a && mtE nm cs N sc x a && true) = true := h
    simp only [Bool.and_eq_true] at h
    exact ⟨x, rfl, h.1.1, h.1.2⟩
  | [], h => cases h
  | _ :: _ :: _, h =>
    have h : (nStar a && mtE nm cs N sc _ a && false) = true := h
    simp at h
theorem ok_bi1 {b : BI} {n : String} {ty : Bool} (hb : biName b = some (n, ty)) (mem : n ∈ blts) (hs : SEs Γ nm cs xs) : SE Γ nm cs (.bi b xs) := fun X W e G h => by
  obtain ⟨f, p, as, pos, gs, bs, rfl, k, hg, hm⟩ := bi_inv h
  have k : (if f == Str.ofString n && !as.isEmpty then some ([f], as) else none) = some (gs, bs) := by
    cases b <;> cases hb <;> exact k
  obtain ⟨k1, k2⟩ := if_some k
  cases k2
  rw [Bool.and_eq_true] at k1
  obtain rfl := beq_str k1.1
  cases as with
  | nil => cases k1.2
  | cons a r => exact ze_bi hb G.calm G.un (gl_of (hg _ (by simp))).1 (G.bl n mem) (hs X W _ G hm) fun a ha r => star_of (mtEs_star hm a ha) r X.env
theorem ok_tuple (hx : ∀ x, xs = [x] → SE Γ nm cs x) : SE Γ nm cs (.bi .tuple xs) := fun X W e G h => by
  obtain ⟨f, p, as, pos, gs, bs, rfl, k, hg, hm⟩ := bi_inv h
  obtain ⟨k1, k2⟩ := if_some k
  cases k2
  rw [Bool.and_eq_true] at k1
  obtain rfl := beq_str k1.1
  obtain ⟨a, rfl⟩ := one_of k1.2
  obtain ⟨x, rfl, h1, h2⟩ := mtEs_one hm
  exact ze_tuple (gl_of (hg _ (by simp))).1 (G.bl "tuple" (by decide)) (hx x rfl X W a G h2) (star_of h1 _ _)
theorem ok_lenkeys (hx : ∀ x, xs = [x] → SE Γ nm cs x) : SE Γ nm cs (.bi .lenkeys xs) := fun X W e G h => by
  obtain ⟨f, p, as, pos, gs, bs, rfl, k, hg, hm⟩ := bi_inv h
  obtain ⟨g, p2, cs, q, rfl, k⟩ := nested_inv k
  obtain ⟨k1, k2⟩ := if_some k
  cases k2
  rw [Bool.and_eq_true, Bool.and_eq_true] at k1
  obtain rfl := beq_str k1.1.1
  obtain rfl := beq_str k1.1.2
  obtain ⟨a, rfl⟩ := one_of k1.2
  obtain ⟨x, rfl, h1, h2⟩ := mtEs_one hm
  exact ze_lenkeys G.calm (gl_of (hg _ (by simp))).1 (G.bl "len" (by decide)) (gl_of (hg _ (by simp))).1 (G.bl "set" (by decide)) (hx x rfl X W a G h2) (star_of h1 _ _)
theorem Good.none {X : Cx} {W : WX} (G : Good X W nm cs Γ) : Good X (fun _ _ _ _ => False) nm cs Γ := ⟨G.calm, G.nd, G.u2, takes0, G.bl, G.fn, G.cn, G.lm⟩
theorem ok_rev (hx : SE Γ nm cs x) : SE Γ nm cs (.rev x) := fun X W e G h => by
  cases e with
  | Subscript a i pos =>
    (cases i <;> try (cases h; done)); rename_i lo hi st p3
    (cases lo <;> try (cases h; done)); (cases hi <;> try (cases h; done)); (cases st <;> try (cases h; done)); rename_i st
    (cases st <;> try (cases h; done)); rename_i op c p2
    (cases op <;> try (cases h; done)); (cases c <;> try (cases h; done)); rename_i cv j p1
    (cases cv <;> try (cases h; done)); rename_i i
    · have h : (i == 1 && mtE nm cs X.N X.env.scope x a) = true := h
      rw [Bool.and_eq_true] at h
      obtain rfl : i = 1 := by simpa using h.1
      exact ze_rev (hx X W a G h.2)
  | _ => cases h
theorem ok_listrange (hx : ∀ x ∈ xs, SE Γ nm cs x) : SE Γ nm cs (.bi .listrange xs) := fun X W e G h => by
  obtain ⟨f, p, as, pos, gs, bs, rfl, k, hg, hm⟩ := bi_inv h
  obtain ⟨g, p2, cs, q, rfl, k⟩ := nested_inv k
  obtain ⟨k1, k2⟩ := if_some k
  cases k2
  rw [Bool.and_eq_true, Bool.and_eq_true, Bool.or_eq_true] at k1
  obtain rfl := beq_str k1.1.1
  obtain rfl := beq_str k1.1.2
  rcases k1.2 with k2 | k2
  · obtain ⟨a, rfl⟩ := one_of k2
    obtain ⟨x, rfl, h1, h2⟩ := mtEs_one hm
    exact ze_listrange G.calm (gl_of (hg _ (by simp))).1 (G.bl "list" (by decide)) (gl_of (hg _ (by simp))).1 (G.bl "range" (by decide)) (hx x (by simp) X W a G h2) (star_of h1 _ _)
  · obtain ⟨a, b, rfl⟩ : ∃ a b, bs = [a, b] := by
      match bs, k2 with
      | [a, b], _ => exact ⟨a, b, rfl⟩
    cases xs with
    | nil => cases hm
    | cons x xs =>
      rw [mtEs, Bool.and_eq_true, Bool.and_eq_true] at hm
      obtain ⟨y, rfl, h3, h4⟩ := mtEs_one hm.2
      refine ze_listrange2 G.calm (gl_of (hg _ (by simp))).1 (G.bl "list" (by decide)) (gl_of (hg _ (by simp))).1 (G.bl "range" (by decide)) (hx x (by simp) X W a G hm.1.2) (hx y (by simp) X W b G h4) (star_of hm.1.1 _ _) (star_of h3 _ _) ?_
      rw [star_of h3]; rfl
theorem ok_mi {m : MI} (hx : SE Γ nm cs x) (hs : ∀ y ∈ xs, SE Γ nm cs y) : SE Γ nm cs (.mi m x xs) := fun X W e G h => by
  cases e with
  | Call f as ks pos =>
    cases f with
    | Attribute a n apos =>
      cases ks with
      | nil =>
        have h : (miOk m && n == Str.ofString (miName m) && decide (as.length = miAr m) && attrOk a && apos.endLine == pos.line && mtE nm cs X.N X.env.scope x a && mtEs nm cs X.N X.env.scope xs as) = true := h
        simp only [Bool.and_eq_true] at h
        obtain ⟨⟨⟨⟨⟨⟨h0, h1⟩, h2⟩, h3⟩, h4⟩, h5⟩, h6⟩ := h
        obtain rfl := beq_str h1
        cases m with
        | append =>
          obtain ⟨b, rfl⟩ := one_of h2
          obtain ⟨y, rfl, h7, h8⟩ := mtEs_one h6
          exact ze_mi1 PySem.F.slot_list_append PySem.F.type_list_append mt_append (fun _ _ _ _ _ _ _ _ _ => mo_append) (hx X W a G h5) (hs y (by simp) X W b G h8) (attr_of h3 _ _ _) h4 fun r => star_of h7 r X.env
        | popAt => cases h0
        | index =>
          obtain ⟨b, rfl⟩ := one_of h2
          obtain ⟨y, rfl, h7, h8⟩ := mtEs_one h6
          exact ze_mi1 PySem.F.slot_list_index PySem.F.type_list_index (mt_indexD G.un) (fun _ _ _ _ _ _ _ _ _ => mo_index) (hx X W a G h5) (hs y (by simp) X W b G h8) (attr_of h3 _ _ _) h4 fun r => star_of h7 r X.env
        | count =>
          obtain ⟨b, rfl⟩ := one_of h2
          obtain ⟨y, rfl, h7, h8⟩ := mtEs_one h6
          exact ze_mi1 PySem.F.slot_list_count PySem.F.type_list_count (Zh.mt_countD G.un) (fun _ _ _ _ _ _ _ _ _ => mo_count) (hx X W a G h5) (hs y (by simp) X W b G h8) (attr_of h3 _ _ _) h4 fun r => star_of h7 r X.env
        | remove => cases h0
        | extend => cases h0
        | insert => cases h0
        | clear => cases h0
        | pop => cases h0
      | cons _ _ => cases h
    | _ => cases h
  | _ => cases h
theorem ok_isi {t : IT} (hx : SE Γ nm cs x) : SE Γ nm cs (.isi x t) := fun X W e G h => by
  cases e with
  | Call f as ks pos =>
    cases f with
    | Name g p =>
      (cases as <;> try (cases h; done)); rename_i a r
      (cases r <;> try (cases h; done)); rename_i b r
      (cases b <;> try (cases h; done)); rename_i ty p2
      (cases r <;> try (cases h; done)); (cases ks <;> try (cases h; done))
      · have h : (g == ("isinstance" : Str) && ty == Str.ofString (itName t) && glB X.env.scope g && glB X.env.scope ty && nStar a && mtE nm cs X.N X.env.scope x a) = true := h
        simp only [Bool.and_eq_true] at h
        obtain ⟨⟨⟨⟨⟨h1, h2⟩, h3⟩, h4⟩, h5⟩, h6⟩ := h
        obtain rfl := beq_str h1
        obtain rfl := beq_str h2
        exact ze_isi (gl_of h3).1 (G.bl "isinstance" (by decide)) (gl_of h4).1 (G.bl (itName t) (by cases t <;> decide)) (hx X W a G h6) fun r => star_of h5 r X.env
    | _ => cases h
  | _ => cases h
theorem any_xs {nm : List Cn} {rs : List Str} {c : Str} (h : nm.any (fun q : Cn => match q with | .xs rs' ts => decide (rs' = rs) && ts.contains c | _ => false) = true) : ∃ (k : Nat) (ts : List Str), nm[k]? = some (.xs rs ts) ∧ c ∈ ts := by
  obtain ⟨q, hq, e⟩ := List.any_eq_true.mp h
  cases q with
  | xs rs' ts =>
    have e : (decide (rs' = rs) && ts.contains c) = true := e
    rw [Bool.and_eq_true] at e
    have e1 := of_decide_eq_true e.1
    subst e1
    obtain ⟨k, hk⟩ := List.mem_iff_getElem?.mp hq
    exact ⟨k, ts, hk, by simpa using e.2⟩
  | _ => cases e
theorem ok_isx {rs : List Str} {c : Str} (hx : SE Γ nm cs x) : SE Γ nm cs (.isx x rs c) := fun X W e G h => by
  cases e with
  | Call f as ks pos =>
    cases f with
    | Name g p =>
      (cases as <;> try (cases h; done)); rename_i a r
      (cases r <;> try (cases h; done)); rename_i b r
      (cases b <;> try (cases h; done)); rename_i ty p2
      (cases r <;> try (cases h; done)); (cases ks <;> try (cases h; done))
      · have h : (g == ("isinstance" : Str) && ty == c && glB X.env.scope g && glB X.env.scope ty && !rs.isEmpty && nm.any (fun q => match q with | .xs rs' ts => decide (rs' = rs) && ts.contains c | _ => false) && !(ty == ("__debug__" : Str)) && nStar a && mtE nm cs X.N X.env.scope x a) = true := h
        simp only [Bool.and_eq_true] at h
        obtain ⟨⟨⟨⟨⟨⟨⟨⟨h1, h2⟩, h3⟩, h4⟩, h5⟩, h6⟩, h7⟩, h8⟩, h9⟩ := h
        obtain rfl := beq_str h1
        obtain rfl := beq_str h2
        obtain ⟨k, ts, hk, hc⟩ := any_xs h6
        obtain ⟨S, _, xr⟩ := G.fn k _ hk
        exact ze_isx xr (fun z => by rw [z] at h5; cases h5) hc (gl_of h3).1 (G.bl "isinstance" (by decide)) (gl_of h4).1 (by simpa using h7) (hx X W a G h9) fun r => star_of h8 r X.env
    | _ => cases h
  | _ => cases h
end
end Z

/-! ZsS: lambdas held in lists, a sayer called with each. -/
namespace Z
open PySem PyProof.Rows L2

theorem SR.blk {X : Cx} {ρ : List Addr} {σz : Env} {h : Hep} {σ : L2.St} {H : Hp} (s : SR X ρ σz h σ H) {s0 : Shared} {H0 : Hp} {scope : Scope} {ce : PySem.Env} {fp : List Addr} : SR (X.blk s0 H0 scope ce fp) ρ σz h σ H := ⟨s.hr, s.len, s.sl⟩
theorem SR.unblk {X : Cx} {ρ : List Addr} {σz : Env} {h : Hep} {σ : L2.St} {H : Hp} {s0 : Shared} {H0 : Hp} {scope : Scope} {ce : PySem.Env} {fp : List Addr} (s : SR (X.blk s0 H0 scope ce fp) ρ σz h σ H) : SR X ρ σz h σ H := ⟨s.hr, s.len, s.sl⟩
theorem LG.blk {X : Cx} {t : Tg} {v : V} {σ : L2.St} {H : Hp} {Q : L2.St → Hp → Prop} (q : LG X t v σ H Q) {s0 : Shared} {H0 : Hp} {scope : Scope} {ce : PySem.Env} {fp : List Addr} : LG (X.blk s0 H0 scope ce fp) t v σ H Q := by
  obtain ⟨ρ, σz, h, x, s, p, σz', e, k⟩ := q
  exact ⟨ρ, σz, h, x, s.blk, p, σz', e, fun σ' s' b => k σ' s'.unblk b⟩
theorem LE.blk {X : Cx} {W : WX} {w : WE} {σ : L2.St} {H : Hp} {Q : VK} (q : LE X W w σ H Q) {s0 : Shared} {H0 : Hp} {scope : Scope} {ce : PySem.Env} {fp : List Addr} : LE (X.blk s0 H0 scope ce fp) W w σ H Q := by
  obtain ⟨ρ, σz, h, F, E, s, kq, kx, w⟩ := q
  exact ⟨ρ, σz, h, F, E, s.blk, kq, kx, w⟩
theorem LT.blk {X : Cx} {W : WX} {w : Env → Hep → KB → KX → Prop} {σ : L2.St} {H : Hp} {Q : Bool → Hp → Prop} (q : LT X W w σ H Q) {s0 : Shared} {H0 : Hp} {scope : Scope} {ce : PySem.Env} {fp : List Addr} : LT (X.blk s0 H0 scope ce fp) W w σ H Q := by
  obtain ⟨ρ, σz, h, F, E, s, kq, kx, w⟩ := q
  exact ⟨ρ, σz, h, F, E, s.blk, kq, kx, w⟩
section
variable {X : Cx} {pins : List (Addr × Obj)} {σ : L2.St} {H : Hp} {s : Shared}
/-- an object that is there is tracked from here on -/
theorem keep_obj {a : Addr} {oe : Obj} (I : Inv X pins σ H s) (ha : s.heap.get? a = some oe) (hn : H a = none) (n0 : X.s_0.heap.get? a = none) (nl : a ≠ X.env.locals) (nc : ∀ x c, X.env.cells.lookup x = some c → c ≠ a) (np : ∀ p ∈ X.pn ++ pins, p.1 ≠ a) :
    Inv X pins σ (upd H a (LamO a oe)) s := by
  have other : ∀ {b : Addr} {o : HO}, H b = some o → b ≠ a := fun {b o} q z => by
    rw [z, hn] at q
    cases q
  have was : ∀ {b : Addr} {o : Obj}, X.s_0.heap.get? b = some o → b ≠ a := fun {b o} q z => by
    rw [z, n0] at q
    cases q
  refine ⟨I.ok, I.os, I.bare, ⟨I.base.keep, I.base.slot, fun b o q n hx => ?_, I.base.there, fun b xs q => ?_, fun b o u q => ?_, fun b ps q => ?_⟩, I.loc, I.cell, ?_, fun x c e => ?_, fun p hp => ?_, fun b o q => ?_, I.len⟩
  · rw [upd_ne (was q)]
    exact I.base.free b o q n hx
  · have t := I.base.tups b xs q
    rw [upd_ne (other t)]
    exact t
  · have t := I.base.frzs b o u q
    rw [upd_ne (other t)]
    exact t
  · obtain ⟨m, t⟩ := I.base.tbls b ps q
    exact ⟨m, by rw [upd_ne (other t)]; exact t⟩
  · rw [upd_ne (Ne.symm nl)]
    exact I.free
  · rw [upd_ne (nc x c e)]
    exact I.freeC x c e
  · obtain ⟨p1, p2, p3, p4, p5⟩ := I.pin p hp
    exact ⟨p1, by rw [upd_ne (np p hp)]; exact p2, p3, p4, p5⟩
  · by_cases hb : b = a
    · subst hb
      rw [upd_same] at q
      cases q
      exact ⟨ha, ⟨oe, ha⟩, fun _ _ q k => k _ q⟩
    · rw [upd_ne hb] at q
      exact (I.hok b o q).stay (fun _ _ _ z => z) (fun c z => by rw [upd_ne (other z)]; exact z) fun c xs z => by rw [upd_ne (other z)]; exact z
end

section
variable {X : Cx} {W : WX} {nm : List Cn} {cs : List (Str × PV)} {Γ : List Spec}
/-- a lambda as a value -/
theorem ze_lmv {j m k0 i0 : Nat} {ds : List (Expr × Scope)} {bd : Expr} {ar : Arguments} {sc : Scope} {lp : Pos} {c P : Addr} (h2 : Γ[j]? = some (tokSi i0 P (X.env.qual ++ "<lambda>"))) (h3 : Γ[m]? = some (cellS (X.env.qual ++ "<lambda>") X.env.cells))
    (B : LamX.TabB X.base X.mg c P) (ec : X.env.code = .ref c) (na : noPs ar = true) (L : LamX.LamS X.env.scope sc) (ed : ds[k0]? = some (bd, sc)) : PE X (.Lambda ar bd sc lp) (LE X W (wE Γ (.lmv j m ds k0))) := by
  refine ⟨fun pins s σ H Q I q => ?_⟩
  obtain ⟨ρ, σz, h, F, E, sr, kq, kx, w⟩ := q
  have w : (match Γ[j]?, Γ[m]? with | some T, some S => T [] h (fun _ _ => S [.lam ds k0 ("" : Str) []] h F noX) noX | _, _ => False) := w
  rw [h2, h3] at w
  obtain ⟨_, et, ds', k', e, w⟩ := w
  cases e
  have hT : LamX.TabS H P (X.env.qual ++ "<lambda>") := by
    have li : i0 < ρ.length := by rw [sr.hr.len]; exact (List.getElem?_eq_some_iff.mp et).1
    exact (sr.hr.ob i0 _ ρ[i0] et (List.getElem?_eq_getElem li)).2
  refine lam_new I B ec rfl hT (noPs_defs na _) (L.has I.ok) fun f c' pm ctv H1 s' I1 nc of nf ff sf => ?_
  obtain ⟨hr1, nx⟩ := sr.hr.newC et nc
  obtain ⟨_, f1, _, _, f4, f5⟩ := I.fpOk sf nf
  have n0 : X.s_0.heap.get? f = none := by
    cases g : X.s_0.heap.get? f with
    | none => rfl
    | some o => exact absurd (Nat.lt_of_lt_of_le (Heap.lt_size g) (Nat.le_trans I.sz sf)) (Nat.lt_irrefl _)
  have I2 := keep_obj I1 of nf n0 f1 f4 f5
  obtain ⟨hr2, nx2⟩ := hr1.tupl nf (LamO f (PySem.W.kla_obj "<lambda>" (X.env.qual ++ "<lambda>") ar bd sc (cloFrom X.env.cells sc.names []) pm c' ctv))
  have n : c' ≠ f := fun z => by
    have q := nc.2.1
    rw [z, nf] at q
    cases q
  exact ⟨.ref f, _, I2, rfl, kq (.lam ds k0 (X.env.qual ++ "<lambda>") X.env.cells) h ρ _ (.ref f) (nx.trans nx2) hr2 ⟨f, c', ar, bd, sc, pm, ctv, rfl, ed, na, (upd_ne n).trans nc.2.1, upd_same⟩ w⟩

/-- what was handed over, called: a lambda that is tracked, made in the frame of X -/
theorem pe_actL {pins : List (Addr × Obj)} {σ : L2.St} {H : Hp} {s : Shared} {C2 : CXT} {E2 : XK} {N2 : List Str} {q2 : Str} {sg : Scope} {g f : Addr} {cd2 : Value} {bd : Expr} {sc : Scope} {k : Nat} {a : Str} {pn : List (Addr × Obj)}
    {xe : Value → Shared → Prop} {tl : XK → Hp → VK → Prop} {p1 p2 : Pos} {ou : List PySem.Env} (J : Inv X pins σ H s) (L : LamX.LamS X.env.scope sc) (ho : ∀ b ∈ frs ou, b ∈ frs X.stack)
    (tk : Takes ((cxOf C2 X.prog X.w X.K X.mg X.base N2 q2 sg g cd2 X.A ou s H E2).tr pn xe) W) (room : Room (k + 1) (X.A.deeper (envOfC q2 sg s.heap.objs.size g cd2)))
    (body : ∀ (c' : Addr) (A : Around) (outer : List PySem.Env) (s : Shared) (H : Hp) (E : XK), Room k (A.deeper (LamX.lamEnv X sc s.heap.objs.size f c')) → PE (LamX.lamCx X A outer s H E sc f c') bd (fun σ' HZ Q => σ' = σ ∧ tl E HZ Q))
    (eN : N2[0]? = some a) (ev : Vis sg a) (nd : (a == ("__debug__" : Str)) = false) (nc : (a == ("__classdict__" : Str)) = false) :
    PE ((cxOf C2 X.prog X.w X.K X.mg X.base N2 q2 sg g cd2 X.A ou s H E2).tr pn xe) (.Call (.Name a p1) [] [] p2)
      (fun σZ HZ Q => σZ[0]? = some (some (.ref f)) ∧ (∃ (c' : Addr) (ar : Arguments) (pm ctv : Value), noPs ar = true ∧ HZ c' = some (LamX.CodeO c' (X.env.qual ++ "<lambda>")) ∧ HZ f = some (LamO f (PySem.W.kla_obj "<lambda>" (X.env.qual ++ "<lambda>") ar bd sc (cloFrom X.env.cells sc.names []) pm c' ctv))) ∧
        tl (fun cls d H' => W cls d σZ H') HZ Q) := by
  refine ⟨fun pinsZ sZ σZ HZ Q IZ ⟨z1, ⟨c', ar, pm, ctv, na, z2, z4⟩, z3⟩ => ?_⟩
  refine wpAny_Call_Name_kw (thn ((pe_var (pos := p1) (i := 0) eN ev nd nc).run pinsZ sZ σZ HZ (fun v H1 => v = .ref f ∧ H1 = HZ) IZ ⟨.ref f, z1, rfl, rfl⟩) fun u s1 ⟨v, H1, I1, r1, e1, e2⟩ => ?_)
  subst e1
  subst e2
  obtain rfl : u = Value.ref f := r1
  have o1 : s1.heap.get? f = some (PySem.W.kla_obj "<lambda>" (X.env.qual ++ "<lambda>") ar bd sc (cloFrom X.env.cells sc.names []) pm c' ctv) := (I1.hok f _ z4).1
  refine PySem.W.callWith_F0 ⟨_, _, _, _, o1⟩ ?_
  obtain ⟨⟨oc, vs, t, c1, c2, c3⟩, _, _⟩ := I1.hok c' _ z2
  have run : codeAny (model X.prog X.w) (X.A.deeper (envOfC q2 sg s.heap.objs.size g cd2)) (.call (.ref f) ⟨[], []⟩) (CR (L2.CX X.prog X.w) (envOfC q2 sg s.heap.objs.size g cd2 :: ou) X.prog X.w H1 s1 Q fun cls d H' => W cls d σZ H') s1 := by
    refine PySem.W.kla_callFunE room.depth o1 rfl L.co L.gen rfl ⟨c', oc, vs, t, rfl, c1, c2, c3⟩ ?_
    rw [noPs_bind na]
    refine wpAny_pure (wpAny_newFunctionEnv (fun y my => (L.own y my).2) (fun y my => nomatch my) (fun h₁ hn hb => ⟨I1.nolimit.fresh _ hb, ?_⟩) L.kind)
    have kp : ∀ b o, s1.heap.get? b = some o → h₁.get? b = some o := fun b o e => hb.extBut b o (Nat.ne_of_lt (Heap.lt_size e)) (Heap.get?_push_of_some _ e)
    have un : Un (frs X.stack) [] H H1 s.heap s1.heap := Un.mono I1.base ho fun b z => z
    have J2 := LamX.lam_start2 (E := fun cls d H' => W cls d σZ H') (f := f) (c' := c') (tk := s1.toks + ([] : List (Str × Value)).length) J L I1.env0 room.hd un hn kp
    refine PySem.W.kla_codeExpr (wpAny_mono ((body c' _ _ s1 H1 _ (room.deeper _)).run [] _ _ H1 Q J2 ⟨rfl, z3⟩) (fun v s' ⟨w', H', J3, rv, q⟩ => ?_) fun e s' hq => hq)
    exact ⟨w', H', J3.os, J3.bare, J3.base, J3.hok, rv, q⟩
  refine wpAny_call (codeAny_mono run fun r s' hq => ?_)
  cases r with
  | error e => exact passAt tk σZ pinsZ H1 s1 e s' I1 hq
  | ok fl =>
    cases fl with
    | ret u => exact I1.after hq
    | next => exact hq.elim
    | brk => exact hq.elim
    | cont => exact hq.elim

/-- a comprehension whose element may look at the frame around it: what is known of the frame where the block starts is handed to the element -/
theorem lc_lam {pins : List (Addr × Obj)} {s : Shared} {σ : L2.St} {H : Hp} {Q : VK} {elt tg iter : Expr} {scope : Scope} {own : List (Str × Nat)} {pos : Pos} {wi : TI} {g : TG} {te : TE} (hc : X.calm = true) (hN : X.N.Nodup) (I : Inv X pins σ H s) (hi : PI X tg iter wi) (ok : BlkOk X.N X.env.scope scope own)
    (hg : ∀ (s : Shared) (H : Hp) (C : Addr) (cl : List (Str × Addr)) (fp : List Addr), PG (X.blk s H scope (compEnvC scope cl C X.env) fp) tg g)
    (he : ∀ (s : Shared) (H : Hp) (C : Addr) (cl : List (Str × Addr)) (fp : List Addr), Inv X pins σ H s → (∀ b ∈ fp, FpOk X pins H b) → PE (X.blk s H scope (compEnvC scope cl C X.env) fp) elt te) (hs : ∀ x, foldedSetIterable iter X.env x = pure x)
    (h : tLc wi g tYes te (own.map (·.2)) σ H Q) : wpAny (model X.prog X.w) X.A (eval (.ListComp elt [⟨tg, iter, [], 0⟩] scope pos) X.env) (EP X pins σ Q) X.xe s := by
  rw [eval_ListComp]
  have hfree : ∀ y ∈ scope.names, y.2 = .free → ∃ c, X.env.cells.lookup y.1 = some c := fun y hy e => (ok.free y hy e).elim (fun k => I.ok.has _ (.inl k)) fun k => I.ok.has _ (.inr k)
  refine wpAny_comprehension_free (use := none) rfl hs (closure_ok hfree) ok.kind (fun y hy e => by rw [ok.uniq y hy, e]) (thn (hi.run pins s σ H _ I h) fun _ s1 hx => thn hx fun _ s2 ⟨it, fp, tn, J, H2, e, I2, T, st2, f2, q⟩ => ?_)
  subst e
  refine wpAny_newObj_type (newEnv_comp ?_) (by show 0 ≤ sizeLine; decide)
  generalize hD : s2.heap.objs.size = D
  obtain ⟨Wt, ⟨m0, w0⟩, turn⟩ := q D (I2.hok.fresh (Nat.le_of_eq hD))
  generalize hs3 : ({ s2 with heap := s2.heap.push { cls := .type "list", data := .seq ([] : List Value).toArray } } : Shared) = s3
  have h3 : s3.heap = s2.heap.push { cls := .type "list", data := .seq ([] : List Value).toArray } := by rw [← hs3]
  have up3 : ∀ b o, s2.heap.get? b = some o → s3.heap.get? b = some o := fun b o e => by rw [h3]; exact Heap.get?_push_of_some _ e
  have I3 : Inv X pins σ (upd H2 D (.lst [])) s3 := by
    rw [← hs3]
    refine I2.laid (t' := s2.toks) (fun b o e => Heap.get?_push_of_some _ e) (Nat.le_of_eq hD) ⟨Nat.zero_le _, [], 0, .nil, ?_⟩
    rw [← hD]
    exact Heap.get?_push_size _ rfl
  have f3 : ∀ b ∈ fp, FpOk X pins (upd H2 D (.lst [])) b ∧ b < s3.heap.objs.size := fun b hb => by
    obtain ⟨o, e, _⟩ := T.obj _ _ st2 b hb
    have hlt := Heap.lt_size e
    refine ⟨⟨?_, (f2 b hb).2⟩, Heap.lt_size (up3 b o e)⟩
    rw [upd_ne (by rw [← hD]; exact Nat.ne_of_lt hlt)]
    exact (f2 b hb).1
  have st3 : tn 0 s3.heap := T.keep _ _ _ st2 fun b _ o e => up3 b o e
  have I4 := block_start I3 ok hN f3
  have pg := hg s3 (upd H2 D (.lst [])) s3.heap.objs.size (cellsFrom (s3.heap.objs.size + 1) scope.names (cloFrom X.env.cells scope.names [])) fp
  have pe := he s3 (upd H2 D (.lst [])) s3.heap.objs.size (cellsFrom (s3.heap.objs.size + 1) scope.names (cloFrom X.env.cells scope.names [])) fp I3 fun b hb => (f3 b hb).1
  show codeAny _ _ (.compStart (.ListComp elt [⟨tg, iter, [], 0⟩] scope pos) 0 (.ref it) (.ref D) (compEnvC scope (cellsFrom (s3.heap.objs.size + 1) scope.names (cloFrom X.env.cells scope.names [])) s3.heap.objs.size X.env)) (compPost (model X.prog X.w) X.A X.xe none (EP X pins σ Q) (.ref D) s3.heap.objs.size) { s3 with heap := pushCells (s3.heap.push { cls := .type "dict", data := .dict #[] }) scope.names }
  generalize hce : compEnvC scope (cellsFrom (s3.heap.objs.size + 1) scope.names (cloFrom X.env.cells scope.names [])) s3.heap.objs.size X.env = ce at I4 pg pe ⊢
  have cL : ce.locals = s3.heap.objs.size := by subst hce; rfl
  generalize hH3 : upd H2 D (.lst []) = H3 at I3 I4 pg pe w0 f3
  generalize hs4 : ({ s3 with heap := pushCells (s3.heap.push { cls := .type "dict", data := .dict #[] }) scope.names } : Shared) = s4 at I4 ⊢
  have st4 : tn 0 s4.heap := T.keep _ _ _ st3 fun b _ o e => by rw [← hs4]; exact pushCells_keeps _ _ _ _ (Heap.get?_push_of_some _ e)
  have stat : ∀ {σ' : L2.St} {H' : Hp} {s' : Shared}, Inv (X.blk s3 H3 scope ce fp) [] σ' H' s' → (∀ b ∈ fp, H' b = none) → ∀ b ∈ fp, FpOk (X.blk s3 H3 scope ce fp) [] H' b := fun {σ' H' s'} I' hn b hb =>
    ⟨hn b hb, (I'.ok.exf b hb).1, I'.ok.exfs b hb, .inl hb, fun x c e => (I'.ok.exf b hb).2 x c e, fun p hp => absurd (show p ∈ ([] : List (Addr × Obj)) ++ [] from hp) (by simp)⟩
  have loop : codeAny (model X.prog X.w) X.A (.compLoop (.ListComp elt [⟨tg, iter, [], 0⟩] scope pos) 0 (.ref it) (.ref D) ce) (compPost (model X.prog X.w) X.A X.xe none (EP X pins σ Q) (.ref D) s3.heap.objs.size) s4 := by
    refine compLoop_any (fun n s' => ∃ i H', Inv (X.blk s3 H3 scope ce fp) [] (L2.wipe σ (own.map (·.2))) H' s' ∧ tn i s'.heap ∧ (∀ b ∈ fp, H' b = none) ∧ Wt i n H') ?_ m0 ⟨0, H3, I4, st4, fun b hb => (f3 b hb).1.1, w0⟩
    rintro n s5 ⟨i, H5, I5, st5, n5, w5⟩
    rcases turn i n H5 w5 with ⟨stop, qq⟩ | ⟨go, Nt, hNt, step⟩
    · refine thnF (T.done (X.blk s3 H3 scope ce fp) rfl rfl rfl hc i [] s5 _ H5 (fun _ _ => False) I5 (stat I5 n5) st5 stop) fun r s6 ⟨hr, I6⟩ => ?_
      subst hr
      have I7 : Inv X pins σ H5 s6 := I3.call' (ch := fp) I6.os I6.base I6.hok I6.bare fun b hb => ⟨(f3 b hb).1.2.2.2.1, (f3 b hb).1.2.1, (f3 b hb).1.2.2.2.2.1, (f3 b hb).1.2.2.2.2.2⟩
      have nC : H5 s3.heap.objs.size = none := by
        have z : H5 ce.locals = none := I6.free
        rw [cL] at z
        exact z
      obtain ⟨m, hn, _⟩ := I6.loc
      have hn : s6.heap.Ns ce.locals m := hn
      rw [cL] at hn
      obtain ⟨f0, f1, f2, f3', f4, f5⟩ := I3.fpOk (Nat.le_refl _) nC
      exact ⟨m, hn, fun h'' sb => ⟨.ref D, H5, I7.turned (t' := s6.toks) (fun b o hb e => (sb.2 b hb).trans e) f0 f1 f3' f4 f5, rfl, qq⟩⟩
    · refine thnF (T.item (X.blk s3 H3 scope ce fp) rfl rfl rfl hc i [] s5 _ H5 (fun _ _ => False) I5 (stat I5 n5) st5 go) fun r s6 ⟨u, hr, h6⟩ => ?_
      subst hr
      refine thnF h6 fun _ s7 ⟨x, H7, I7, r7, y7, st7, n7⟩ => ?_
      refine thnF (pg.run _ s7 _ H7 x u _ (I7.pinned (stat I7 n7) (T.obj _ _ st7)) r7 (step x H7 y7)) fun _ s8 ⟨σ8, H8, I8, hw8, q8⟩ => ?_
      refine thnF ((pts_nil (X := X.blk s3 H3 scope ce fp)).run _ s8 σ8 H8 _ I8 q8) fun b s9 ⟨H9, I9, q9⟩ => ?_
      have fin : ∀ {s' : Shared} {H' : Hp}, Inv (X.blk s3 H3 scope ce fp) ([] ++ pinsAt fp s7.heap) σ8 H' s' → Nt H' → ∃ m, m < n ∧ ∃ i H', Inv (X.blk s3 H3 scope ce fp) [] (L2.wipe σ (own.map (·.2))) H' s' ∧ tn i s'.heap ∧ (∀ b ∈ fp, H' b = none) ∧ Wt i m H' := fun {s' H'} I' nx => by
        obtain ⟨m', hm, w'⟩ := hNt H' nx
        have pin' : ∀ b ∈ fp, ∀ o, s7.heap.get? b = some o → s'.heap.get? b = some o ∧ H' b = none := fun b hb o e =>
          let z := I'.pin (b, o) (List.mem_append_right _ (List.mem_append_right _ (mem_pinsAt hb e)))
          ⟨z.1, z.2.1⟩
        refine ⟨m', hm, i + 1, H', (I'.unpinned (pins := [])).weak (by rw [← hw8, wipe_length]) (fun j v e => ?_), T.keep _ _ _ st7 fun b hb o e => (pin' b hb o e).1, fun b hb => ?_, w'⟩
        · rw [← hw8] at e
          exact (wipe_some e).1
        · obtain ⟨o, e, _⟩ := T.obj _ _ st7 b hb
          exact (pin' b hb o e).2
      cases b with
      | false =>
        rw [if_neg Bool.false_ne_true] at q9 ⊢
        exact fin I9 q9
      | true =>
        rw [if_pos rfl] at q9 ⊢
        exact thnF (pe.run _ s9 σ8 H9 _ I9 q9) fun z s10 ⟨yv, H10, I10, r10, acc, hD10, hz10, nx⟩ => app_ok (X := X.blk s3 H3 scope ce fp) I10 hD10 hz10 r10 fun s11 I11 => fin I11 nx
  exact codeAny_compStart_list loop (T.self X.A 0 _ _ _ st4 loop)

/-- what an element does that looks at the frame around it, too; σ: that frame's slots -/
def LC (X : Cx) (σ : L2.St) (we : Env → Env → Hep → KQ → Prop) : TE := fun σ' H Q => ∃ (ρ : List Addr) (σz0 σz' : Env) (h : Hep) (F : KQ), SR X ρ σz0 h σ H ∧ SR X ρ σz' h σ' H ∧ KQok X ρ H F Q ∧ we σz0 σz' h F
theorem le_coms {own : List Nat} {t : Tg} {wi : Env → Hep → (List PV → Grd → Hep → Prop) → KX → Prop} {we : Env → Env → Hep → KQ → Prop} (sub : ∀ j ∈ slotsT t, j ∈ own) (σ : L2.St) (H : Hp) (Q : VK)
    (q : LE X W (fun σz h F E => wi σz h (fun items g h1 => wComp g t (fun _ h' G => G true h') (fun σ' h' G => we σz σ' h' G) (wipeZ σz own) items [] h1 fun acc h2 => F (.ref h2.length) (h2 ++ [.lst acc])) E) σ H Q) :
    tLc (LI X W wi) (LG X t) tYes (LC X σ we) own σ H Q := by
  obtain ⟨ρ, σz, h, F, E, sr, kq, kx, w⟩ := q
  refine ⟨ρ, σz, h, _, E, sr, fun items g h1 ρ1 H1 J n1 r1 ok w1 => ?_, kx, w⟩
  intro D hD
  have nD1 : D ∉ ρ1 := r1.fresh hD
  refine ⟨fun i m H' => i + m = items.length ∧ ∃ (ρ' : List Addr) (h' : Hep) (acc : List PV) (av : List V), Nx ρ1 H1 ρ' H' ∧ HR X.K X.mg ρ' h' H' ∧ H' D = some (.lst av) ∧ Reps X.K ρ' H' acc av ∧ D ∉ ρ' ∧ SR X ρ' σz h' σ H' ∧
      wComp g t (fun _ h' G => G true h') (fun σ' h' G => we σz σ' h' G) (wipeZ σz own) (items.drop i) acc h' fun acc h2 => F (.ref h2.length) (h2 ++ [.lst acc]), ⟨items.length, by omega, ?_⟩, ?_⟩
  · obtain ⟨r2, n2⟩ := r1.tupl hD (.lst [])
    exact ⟨ρ1, h1, [], [], n2, r2, upd_same, rfl, nD1, (sr.nx n1 r1).nx n2 r2, by rw [List.drop_zero]; exact w1⟩
  · rintro i m H2 ⟨hi, ρ2, h2, acc, av, n2, r2, hD2, pa, nD2, s2, w2⟩
    by_cases hlt : i < items.length
    · refine .inr ?_
      have hd : items.drop i = items[i] :: items.drop (i + 1) := List.drop_eq_getElem_cons hlt
      rw [hd] at w2
      unfold wComp at w2
      obtain ⟨gk, w2⟩ := w2
      obtain ⟨go, yl⟩ := (ok ρ2 h2 H2 n2 r2 gk i).2 items[i] (List.getElem?_eq_getElem hlt)
      refine ⟨go, fun H' => ∃ (ρ' : List Addr) (h' : Hep) (acc : List PV) (av : List V), Nx ρ1 H1 ρ' H' ∧ HR X.K X.mg ρ' h' H' ∧ H' D = some (.lst av) ∧ Reps X.K ρ' H' acc av ∧ D ∉ ρ' ∧ SR X ρ' σz h' σ H' ∧
        wComp g t (fun _ h' G => G true h') (fun σ' h' G => we σz σ' h' G) (wipeZ σz own) (items.drop (i + 1)) acc h' fun acc h2 => F (.ref h2.length) (h2 ++ [.lst acc]), fun H' z => ⟨m - 1, by omega, by omega, z⟩, fun v H3 y => ?_⟩
      obtain ⟨n3, r3, pv⟩ := yl v H3 y
      split at w2
      · rename_i σz' et
        refine ⟨ρ2, wipeZ σz own, h2, items[i], (s2.wipe own).nx n3 r3, pv, σz', et, fun σ' s' bt => ⟨wipe_but bt sub, ?_⟩⟩
        have w4 : we σz σz' h2 (fun y h2 => acc.length < big ∧ wComp g t (fun _ h' G => G true h') (fun σ' h' G => we σz σ' h' G) (wipeZ σz own) (items.drop (i + 1)) (acc ++ [y]) h2 fun acc h2 => F (.ref h2.length) (h2 ++ [.lst acc])) := w2
        dsimp only [tYes]
        rw [if_pos rfl]
        refine ⟨ρ2, σz, σz', h2, _, s2.nx n3 r3, s', fun z h5 ρ5 H5 u n5 r5 pz w5 => ?_, w4⟩
        obtain ⟨lz, w5⟩ := w5
        have n35 := n3.trans n5
        have hD5 : H5 D = some (.lst av) := n35.fr D _ hD2 nD2
        have nD5 : D ∉ ρ5 := fun z => by
          have q := n35.nw D z nD2
          rw [hD2] at q
          cases q
        have pa5 := pa.nx r2 n35
        have st := stay_off (K := X.K) (ρ := ρ5) (ws := av ++ [u]) hD5
        have s5 := s2.nx n35 r5
        have hD0 : H1 D = none := hD
        refine ⟨av, hD5, by rw [← big_eq, ← pa5.len]; exact lz, ρ5, h5, acc ++ [z], av ++ [u], (n2.trans n35).off hD0 _, r5.off hD5 nD5, upd_same, Reps.stay st _ _ (pa5.app (Reps.one pz)), nD5, ⟨r5.off hD5 nD5, s5.len, fun j x' ej => ?_⟩, w5⟩
        obtain ⟨v', ev', pv'⟩ := s5.sl j x' ej
        exact ⟨v', ev', Rep.stay st _ _ pv'⟩
      · exact w2.elim
    · have hi' : i = items.length := by omega
      subst hi'
      rw [List.drop_length] at w2
      unfold wComp at w2
      obtain ⟨gk, w2⟩ := w2
      refine .inl ⟨(ok ρ2 h2 H2 n2 r2 gk _).1 rfl, ?_⟩
      have n02 := n1.trans n2
      refine kq (.ref h2.length) _ (ρ2 ++ [D]) H2 (.ref D) ⟨?_, n02.fr, fun a ha na => ?_⟩ (r2.adopt hD2 nD2 pa) ⟨D, by rw [← r2.len]; simp, rfl⟩ w2
      · obtain ⟨u, hu⟩ := n02.pre
        exact ⟨u ++ [D], by rw [hu, List.append_assoc]⟩
      · rcases List.mem_append.mp ha with z | z
        · exact n02.nw a z na
        · rw [List.mem_singleton.mp z]
          cases z2 : H D with
          | none => rfl
          | some o =>
            by_cases hm : D ∈ ρ
            · exact absurd (n1.mem hm) nD1
            · rw [n1.fr D o z2 hm] at hD
              cases hD

/-- the element: a sayer called with one of the lambdas -/
def coreW (Γ : List Spec) (i m p : Nat) (ds : List (Expr × Scope)) (bs : List Ex) (σ0 σ' : Env) (h : Hep) (G : KQ) : Prop := match σ'[p]?, Γ[i]?, Γ[m]? with
  | some (some (.lam ds' n q cl)), some Sa, some S => ds' = ds ∧ S [.lam ds n ("" : Str) []] h (fun w _ => w = .lam ds n q cl ∧ wN Γ bs n σ0 h (fun v h2 => Sa [.bl true, v] h2 G noX) fun y h2 => Sa [.bl false, keptV y] h2 G noX) noX
  | _, _, _ => False
theorem reps_tail {K : PySem.W.Frag} {ρ : List Addr} {H : Hp} {x : PV} {xs : List PV} {v : V} {vs : List V} (q : Reps K ρ H (x :: xs) (v :: vs)) : Rep K ρ H x v ∧ Reps K ρ H xs vs := by
  obtain ⟨v', r, e, q1, q2⟩ := q
  cases e
  exact ⟨q1, q2⟩
theorem wN_get : ∀ {bs : List Ex} {n : Nat} {σ : Env} {h : Hep} {F : KQ} {E : KX}, wN Γ bs n σ h F E → ∃ b, bs[n]? = some b ∧ wE Γ b σ h F E
  | [], _, _, _, _, _, w => by cases w
  | b :: bs, 0, _, _, _, _, w => ⟨b, rfl, w⟩
  | b :: bs, n + 1, σ, h, F, E, w => by
    have w : wN Γ bs n σ h F E := w
    obtain ⟨c, e, w⟩ := wN_get w
    exact ⟨c, by simpa using e, w⟩
theorem pe_core {pins : List (Addr × Obj)} {s3 : Shared} {σ : L2.St} {H3 : Hp} {scope : Scope} {C : Addr} {cl : List (Str × Addr)} {fp : List Addr} {i m p k : Nat} {ds : List (Expr × Scope)} {bs : List Ex} {x y : Str} {pg p1 pos : Pos} {Sa : Spec}
    (I3 : Inv X pins σ H3 s3) (f3 : ∀ b ∈ fp, FpOk X pins H3 b) (G : Good X W nm cs Γ) (h1 : Γ[i]? = some Sa) (sa : SaR X.prog X.w X.K X.mg X.base k x Sa) (gx : Gl (X.blk s3 H3 scope (compEnvC scope cl C X.env) fp) x) (dx : (x == ("__debug__" : Str)) = false)
    (h3 : Γ[m]? = some (cellS (X.env.qual ++ "<lambda>") X.env.cells)) (room : Room (k + 3) X.A) (hp : X.N[p]? = some y) (vy : Vis (relS scope X.env.scope) y) (d1 : (y == ("__debug__" : Str)) = false) (d2 : (y == ("__classdict__" : Str)) = false)
    (bd : ∀ (n : Nat) (b : Ex) (d : Expr × Scope), bs[n]? = some b → ds[n]? = some d → LamX.LamS X.env.scope d.2 ∧ ∀ (A : Around) (outer : List PySem.Env) (s : Shared) (H : Hp) (E : XK) (f c' : Addr), Room k (A.deeper (LamX.lamEnv X d.2 s.heap.objs.size f c')) →
      PE (LamX.lamCx X A outer s H E d.2 f c') d.1 (LE (LamX.lamCx X A outer s H E d.2 f c') (fun cls d _ H => E cls d H) (wE Γ b))) :
    PE (X.blk s3 H3 scope (compEnvC scope cl C X.env) fp) (.Call (.Name x pg) [.Name y p1] [] pos) (LC X σ (coreW Γ i m p ds bs)) := by
  refine ⟨fun pins' s' σ' H' Q I' q => ?_⟩
  obtain ⟨ρ, σz0, σz', h, F, sr0, sr', kq, w⟩ := q
  unfold coreW at w
  rw [h1, h3] at w
  obtain ⟨ds', n, q', cl', ep, w⟩ : ∃ ds' n q' cl', σz'[p]? = some (some (.lam ds' n q' cl')) ∧ ds' = ds ∧ cellS (X.env.qual ++ "<lambda>") X.env.cells [.lam ds n ("" : Str) []] h (fun w _ => w = .lam ds n q' cl' ∧ wN Γ bs n σz0 h (fun v h2 => Sa [.bl true, v] h2 F noX) fun y h2 => Sa [.bl false, keptV y] h2 F noX) noX := by
    split at w
    · rename_i ds' n q' cl' _ _ e1 e2 e3
      cases e2
      cases e3
      exact ⟨_, _, _, _, e1, w⟩
    · exact w.elim
  obtain ⟨rfl, ds0, n0, e, w0, w⟩ := w
  cases e
  cases w0
  obtain ⟨b, eb, w⟩ := wN_get w
  obtain ⟨v, e1, rv⟩ := sr'.sl p _ ep
  have rv' := rv
  obtain ⟨f, c', ar, bd0, sc0, pm, ctv, rfl, ed, na, hc', hf⟩ := rv
  obtain ⟨L, body⟩ := bd n b (bd0, sc0) eb ed
  obtain ⟨g, pg2, bg, sg, dV, kV, doc, pm2, cdv, ct, oc, an, od, osl, Ng, a, hm, hk, lk, hcg, hb, Sg, hNg, hva, nda, nca, sa⟩ := sa
  refine wpAny_Call_Name_kw (ld_glob I' gx hm ?_ dx)
  refine PySem.W.callWith_K (h₀ := X.base) I'.ok.mod.kin hk ?_ (by rfl) (by rfl)
  show wpAny _ _ (spliced ((false, eval (.Name y p1) (compEnvC scope cl C X.env)) :: backTo pos (starEach [] (compEnvC scope cl C X.env)))) _ _ s'
  refine Calls.spliced_cons (thn ((pe_var (X := X.blk s3 H3 scope (compEnvC scope cl C X.env) fp) (pos := p1) (i := p) hp vy d1 d2).run pins' s' σ' H' (fun v H1 => v = .ref f ∧ H1 = H') I' ⟨.ref f, e1, rfl, rfl⟩) fun u s1 ⟨v, H1, I1, r1, e2, e3⟩ => ?_)
  subst e2
  subst e3
  obtain rfl : u = Value.ref f := r1
  refine Calls.spliced_nil ⟨I1.kIn, ?_⟩
  have J : Inv X pins σ H1 s1 := I3.call' (ch := fp) I1.os I1.base I1.hok I1.bare fun b hb => ⟨(f3 b hb).2.2.2.1, (f3 b hb).2.1, (f3 b hb).2.2.2.2.1, (f3 b hb).2.2.2.2.2⟩
  have rp : Reps X.K ρ H1 (.lam ds' n (X.env.qual ++ "<lambda>") X.env.cells :: pickZ σz0) (.ref f :: pickV σz0 σ) := ⟨_, _, rfl, rv', slots_reps sr0.sl⟩
  let tl : XK → Hp → VK → Prop := fun E' HZ Q' => (∃ (c' : Addr) (ar : Arguments) (pm ctv : Value), noPs ar = true ∧ HZ c' = some (LamX.CodeO c' (X.env.qual ++ "<lambda>")) ∧ HZ f = some (LamO f (PySem.W.kla_obj "<lambda>" (X.env.qual ++ "<lambda>") ar bd0 sc0 (cloFrom X.env.cells sc0.names []) pm c' ctv))) ∧ LE X (fun cls d _ H => E' cls d H) (wE Γ b) σ HZ Q'
  have run : codeAny (model X.prog X.w) X.A (.call (.ref g) ⟨[.ref f], []⟩) (CR (L2.CX X.prog X.w) (X.blk s3 H3 scope (compEnvC scope cl C X.env) fp).stack X.prog X.w H1 s1 Q fun _ _ _ => False) s1 := by
    refine LamX.run_ofS (k := k + 2) (N := Ng) (ps := [a]) (us := [.ref f]) (vs := [.ref f]) lk hcg Sg room I1.env0 (hb s1 [.ref f] I1.kIn rfl) (.cons rfl .nil) rfl fun room' => ?_
    refine sa X.A _ s1 H1 f c' (X.env.qual ++ "<lambda>") (.lam ds' n (X.env.qual ++ "<lambda>") X.env.cells :: pickZ σz0) (.ref f :: pickV σz0 σ) h F ρ Q tl (room'.mono (by omega)) sr0.hr rp hc' (fun r h' ρ' H' v n hr' rp' w' => kq r h' ρ' H' v n hr' rp' w') ?_ ?_
    · intro ρ' H' E' Q' hr' rp' kq' kx'
      obtain ⟨q1, rp'⟩ := reps_tail rp'
      obtain ⟨f2, c2, ar2, bd2, sc2, pm2, ctv2, ef, ed2, na2, hc2, hf2⟩ := q1
      cases ef
      rw [ed] at ed2
      cases ed2
      have sl' := reps_slots (fun i x e => let ⟨v, e1, _⟩ := sr0.sl i x e; ⟨v, e1⟩) rp'
      exact ⟨⟨c2, ar2, pm2, ctv2, na2, hc2, hf2⟩, ρ', σz0, h, fun v h2 => Sa [.bl true, v] h2 F noX, fun x h2 => Sa [.bl false, keptV x] h2 F noX, ⟨hr', sr0.len, sl'⟩, fun r h' ρ2 H2 v n hr2 rp2 w2 => kq' r h' ρ2 H2 v n hr2 rp2 w2, fun x h' ρ2 H2 cls d n hr2 xr w2 => kx' x h' ρ2 H2 cls d n hr2 xr w2, w⟩
    · intro W' pn xe p1 p2 tk'
      refine pe_imp (pe_actL (k := k) (tl := tl) (f := f) (bd := bd0) (sc := sc0) J L ?_ tk' (room'.mono (by omega)) (fun c' A outer s2 H2 E2 r2 => ?_) hNg hva nda nca) fun σZ HZ Q2 ⟨z1, z2, z3⟩ => ⟨z1, z3.1, z3⟩
      · exact fun b mb => mb
      · refine pe_imp (body A outer s2 H2 E2 f c' r2) fun σ' H' Q' ⟨e, z⟩ => ?_
        subst e
        exact LE.tmp z.2
  refine wpAny_call (codeAny_mono run fun r s2 hq => ?_)
  cases r with
  | error e => exact (no_excS hq).elim
  | ok fl =>
    cases fl with
    | ret u => exact I1.after hq
    | next => exact hq.elim
    | brk => exact hq.elim
    | cont => exact hq.elim

/-- whether the answer is a list -/
theorem pe_coreT {B : Cx} {σ : L2.St} {a : Expr} {p p2 pos : Pos} {we : Env → Env → Hep → KQ → Prop} (hg : Gl B "isinstance") (hm : B.mg "isinstance" = none) (hg2 : Gl B "list") (hm2 : B.mg "list" = none) (hK : B.K = X.K) (hmg : B.mg = X.mg)
    (ha : PE B a (LC X σ we)) (hs : ∀ r, starEach (a :: r) B.env = (false, eval a B.env) :: starEach r B.env) :
    PE B (.Call (.Name "isinstance" p) [a, .Name "list" p2] [] pos) (LC X σ fun a b h G => we a b h (comsK true G)) := by
  have hb : PE B (.Name (itName .list) p2) (tC (.ty (itName .list))) := pe_bltn hg2 hm2 (boot_it .list) rfl (by decide) (by decide)
  have hpa : PA B [a, .Name (itName .list) p2] (tCons (LC X σ we) (tCons (tC (.ty (itName .list))) tNil)) := pa_cons ha (pa_cons hb pa_nil rfl) (hs _)
  refine pe_imp (pe_callB call_isi hg hm (by decide +kernel) hpa (by decide) (by decide) (hs _) rfl) fun σ' H Q ⟨ρ, σz0, σz', h, F, s0, s', kq, w⟩ => ?_
  refine ⟨ρ, σz0, σz', h, _, s0, s', fun y h1 ρ1 H1 v n1 r1 p1 w1 => ?_, w⟩
  have w1 : isT .list h1 y (fun b => F (.bl b) h1) := w1
  obtain ⟨ty, b, tx, k, w1⟩ := isT_rule r1 p1 w1
  rw [hK]
  exact ⟨v, _, ty, _, b, rfl, .ty _, tx, k, (kq.nx n1).bl r1 w1⟩
theorem mtA_get : ∀ {sc : Scope} {bs : List Ex} {ds : List (Expr × Scope)} {n : Nat} {b : Ex} {d : Expr × Scope} {N : List Str}, mtA nm cs N sc bs ds = true → bs[n]? = some b → ds[n]? = some d → LamX.lamSB sc d.2 = true ∧ mtE nm cs N d.2 b d.1 = true
  | _, [], _, _, _, _, _, _, e, _ => by cases e
  | _, _ :: _, [], _, _, _, _, m, _, _ => by cases m
  | sc, b :: bs, d :: ds, 0, _, _, N, m, e1, e2 => by
    cases e1
    cases e2
    have m : (LamX.lamSB sc d.2 && mtE nm cs N d.2 b d.1 && mtA nm cs N sc bs ds) = true := m
    simp only [Bool.and_eq_true] at m
    exact m.1
  | sc, b :: bs, d :: ds, n + 1, _, _, N, m, e1, e2 => by
    have m : (LamX.lamSB sc d.2 && mtE nm cs N d.2 b d.1 && mtA nm cs N sc bs ds) = true := m
    simp only [Bool.and_eq_true] at m
    exact mtA_get m.2 (by simpa using e1) (by simpa using e2)
theorem comX_f {N : List Str} {i p : Nat} {rs : Scope} {el : Expr} (h : comX nm N i p rs false el = true) : ∃ g pg z p1 pos, el = .Call (.Name g pg) [.Name z p1] [] pos ∧ comY nm N i p rs g z = true := by
  unfold comX at h
  dsimp only at h
  split at h
  · exact ⟨_, _, _, _, _, rfl, h⟩
  · cases h
theorem comX_t {N : List Str} {i p : Nat} {rs : Scope} {el : Expr} (h : comX nm N i p rs true el = true) : ∃ f pf g pg z p1 pos2 ty p2 pos, el = .Call (.Name f pf) [.Call (.Name g pg) [.Name z p1] [] pos2, .Name ty p2] [] pos ∧ (f == ("isinstance" : Str) && ty == ("list" : Str) && glB rs f && glB rs ty && comY nm N i p rs g z) = true := by
  unfold comX at h
  dsimp only at h
  split at h
  · exact ⟨_, _, _, _, _, _, _, _, _, _, rfl, h⟩
  · cases h
theorem ok_lmv {j m k0 : Nat} {ds : List (Expr × Scope)} : SE Γ nm cs (.lmv j m ds k0) := fun X W e G h => by
  cases e with
  | Lambda ar bd sc lp =>
    have h : (decide (nm[j]? = some .tk) && decide (nm[m]? = some .ce) && noPs ar && LamX.lamSB X.env.scope sc && (match ds[k0]? with | some d => eqE 20 d.1 bd && decide (d.2 = sc) | none => false)) = true := h
    simp only [Bool.and_eq_true, decide_eq_true_eq] at h
    obtain ⟨⟨⟨⟨h1, h2⟩, h3⟩, h4⟩, h5⟩ := h
    obtain ⟨c, P, k, i0, e1, TB, ec, room, all⟩ := G.lm j h1
    obtain ⟨S, hS, rd⟩ := G.fn m .ce h2
    have rd : S = cellS (X.env.qual ++ "<lambda>") X.env.cells := rd
    subst rd
    split at h5
    · rename_i d ed
      simp only [Bool.and_eq_true, decide_eq_true_eq] at h5
      obtain ⟨d1, d2⟩ := d
      obtain ⟨h5, h6⟩ := h5
      have h5 : d1 = bd := eqE_eq _ _ _ h5
      have h6 : d2 = sc := h6
      subst h5
      subst h6
      exact ze_lmv e1 hS TB ec h3 (LamX.lamS_by h4) ed
    · cases h5
  | _ => cases h
theorem ok_coms {i j m p k : Nat} {ds : List (Expr × Scope)} {bs : List Ex} {tl : Bool} (hs : ∀ b ∈ bs, SE Γ (nm.map deL) cs b) : SE Γ nm cs (.coms i j m p k ds bs tl) := fun X W a G h => by
  cases a with
  | ListComp el gens scope pos =>
    obtain ⟨y, q1, x, q2, rfl⟩ : ∃ y q1 x q2, gens = [⟨.Name y q1, .Name x q2, [], 0⟩] := by
      match gens, h with
      | [⟨.Name y q1, .Name x q2, [], 0⟩], _ => exact ⟨y, q1, x, q2, rfl⟩
    have h : (L2.blkC X.N X.env.scope scope (ownP X.N [p]) && decide ((ownP X.N [p]).map (·.2) = [p]) && decide (X.N[p]? = some y) && tkB scope X.env.scope y && (decide (X.N[k]? = some x) && visB X.env.scope x && !(x == ("__debug__" : Str)) && !(x == ("__classdict__" : Str))) &&
      decide (nm[j]? = some .tk) && decide (nm[m]? = some .ce) && comX nm X.N i p (L2.relS scope X.env.scope) tl el && mtA (nm.map deL) cs X.N X.env.scope bs ds) = true := h
    simp only [Bool.and_eq_true] at h
    obtain ⟨⟨⟨⟨⟨⟨⟨⟨h1, h2⟩, h3⟩, h4⟩, h5⟩, h6⟩, h7⟩, h8⟩, h9⟩ := h
    have e2 := of_decide_eq_true h2
    have h3 := of_decide_eq_true h3
    have h6 := of_decide_eq_true h6
    have h7 := of_decide_eq_true h7
    obtain ⟨c, P, kk, i0, e1, TB, ec, room, all⟩ := G.lm j h6
    obtain ⟨S, hS, rd⟩ := G.fn m .ce h7
    have rd : S = cellS (X.env.qual ++ "<lambda>") X.env.cells := rd
    subst rd
    have hi : PI X (.Name y q1) (.Name x q2) (LI X W (wI Γ (.wlk (.var k)))) := zi_walk (ok_var X W (.Name x q2) G (by
      show (decide (X.N[k]? = some x) && visB X.env.scope x && !(x == ("__debug__" : Str)) && !(x == ("__classdict__" : Str))) = true
      simp only [Bool.and_eq_true]
      exact h5))
    have pg : ∀ (s : Shared) (H : Hp) (C : Addr) (cl : List (Str × Addr)) (fp : List Addr), PG (X.blk s H scope (compEnvC scope cl C X.env) fp) (.Name y q1) (LG X (.nm p)) := fun s H C cl fp =>
      pg_imp (sG (X := X.blk s H scope (compEnvC scope cl C X.env) fp) G.calm G.nd (tkB_ok s H scope C cl fp) (.nm p) (.Name y q1) (by
        show (decide (X.N[p]? = some y) && tkB scope X.env.scope y) = true
        rw [Bool.and_eq_true]
        exact ⟨decide_eq_true h3, h4⟩)) fun v σ H Q q => q.blk
    refine ⟨fun pins s σ H Q I q => ?_⟩
    have core : ∀ (s : Shared) (H : Hp) (C : Addr) (cl : List (Str × Addr)) (fp : List Addr) (g z : Str) (pg p1 pos : Pos), Inv X pins σ H s → (∀ b ∈ fp, FpOk X pins H b) → comY nm X.N i p (L2.relS scope X.env.scope) g z = true →
        PE (X.blk s H scope (compEnvC scope cl C X.env) fp) (.Call (.Name g pg) [.Name z p1] [] pos) (LC X σ (coreW Γ i m p ds bs)) := fun s H C cl fp g z pg p1 pos I3 f3 hy => by
      have hy : (decide (nm[i]? = some (.sa g)) && glB (L2.relS scope X.env.scope) g && decide (X.N[p]? = some z) && visB (L2.relS scope X.env.scope) z && !(z == ("__debug__" : Str)) && !(z == ("__classdict__" : Str))) = true := hy
      simp only [Bool.and_eq_true, decide_eq_true_eq, Bool.not_eq_true'] at hy
      obtain ⟨⟨⟨⟨⟨y1, y2⟩, y3⟩, y4⟩, y5⟩, y6⟩ := hy
      obtain ⟨Sa, hSa, q⟩ := all i (.sa g) y1
      have sa : SaR X.prog X.w X.K X.mg X.base kk g Sa := by
        rcases q with (e | e | e | e | e) | q
        · cases e
        · cases e
        · cases e
        · cases e
        · cases e
        · exact q
      obtain ⟨g1, g2⟩ := gl_of (X := X.blk s H scope (compEnvC scope cl C X.env) fp) y2
      refine pe_core I3 f3 G hSa sa g1 g2 hS room y3 (vis_of (X := X.blk s H scope (compEnvC scope cl C X.env) fp) y4) y5 y6 fun n b d eb ed => ?_
      obtain ⟨l1, l2⟩ := mtA_get h9 eb ed
      refine ⟨LamX.lamS_by l1, fun A outer s H E f c' r2 => hs b (List.mem_of_getElem? eb) (LamX.lamCx X A outer s H E d.2 f c') _ d.1 (G.lam all r2) l2⟩
    have q' : LE X W (fun σz h F E => wI Γ (.wlk (.var k)) σz h (fun items g h1 => wComp g (.nm p) (fun _ h' G => G true h') (fun σ' h' G => coreW Γ i m p ds bs σz σ' h' (comsK tl G)) (wipeZ σz [p]) items [] h1 fun acc h2 => F (.ref h2.length) (h2 ++ [.lst acc])) E) σ H Q := by
      obtain ⟨ρ, σz, h, F, E, sr, kq, kx, w⟩ := q
      exact ⟨ρ, σz, h, F, E, sr, kq, kx, w⟩
    have sub : ∀ j ∈ slotsT (.nm p), j ∈ [p] := fun j hj => hj
    have hh := le_coms (we := fun a b h G => coreW Γ i m p ds bs a b h (comsK tl G)) sub σ H Q q'
    rw [← e2] at hh
    refine lc_lam G.calm G.nd I hi (blkOk_by h1) pg (fun s H C cl fp I3 f3 => ?_) (fun v => folded_of rfl X.env v) hh
    cases tl with
    | false =>
      obtain ⟨g, pg, z, p1, pos, rfl, h8⟩ := comX_f h8
      exact core s H C cl fp g z pg p1 pos I3 f3 h8
    | true =>
      obtain ⟨f, pf, g, pg, z, p1, pos2, ty, p2, pos, rfl, hz⟩ := comX_t h8
      obtain ⟨hz, z5⟩ := Bool.and_eq_true_iff.mp hz
      obtain ⟨hz, z4⟩ := Bool.and_eq_true_iff.mp hz
      obtain ⟨hz, z3⟩ := Bool.and_eq_true_iff.mp hz
      obtain ⟨z1, z2⟩ := Bool.and_eq_true_iff.mp hz
      obtain rfl := beq_str z1
      obtain rfl := beq_str z2
      exact pe_coreT (B := X.blk s H scope (compEnvC scope cl C X.env) fp) (gl_of (X := X.blk s H scope (compEnvC scope cl C X.env) fp) z3).1 (G.bl "isinstance" (by decide)) (gl_of (X := X.blk s H scope (compEnvC scope cl C X.env) fp) z4).1 (G.bl "list" (by decide)) rfl rfl (core s H C cl fp g z pg p1 pos2 I3 f3 z5) fun r => rfl
  | _ => cases h
end
end Z

/-! ZsZ: d.pop(k); x.f += e -/
namespace Z
open PySem PyProof.Rows L2
section
variable {X : Cx} {W : WX} {Γ : List Spec} {nm : List Cn} {cs : List (Str × PV)} {x y : Ex} {a b e : Expr} {pos : Pos}
end
end Z

/-! ZsN: soundness of expressions as a whole, the end. -/
namespace Z
open PySem PyProof.Rows L2

section
variable {nm : List Cn} {cs : List (Str × PV)} {Γ : List Spec} {x y z : Ex} {xs : List Ex}
def SC (Γ : List Spec) (nm : List Cn) (cs : List (Str × PV)) (c : Option Ex) : Prop := ∀ y, c = some y → ST Γ nm cs y
theorem ok_comp {own : List Nat} {t : Tg} {c : Option Ex} (hi : SI Γ nm cs x) (hc : SC Γ (nm.map deC) cs c) (he : SE Γ (nm.map deC) cs y) : SE Γ nm cs (.comp own t x c y) := fun X W a G h => by
  cases a with
  | ListComp el gens scope pos =>
    obtain ⟨tg, ir, ifs, rfl⟩ : ∃ tg ir ifs, gens = [⟨tg, ir, ifs, 0⟩] := by
      match gens, h with
      | [⟨tg, ir, ifs, 0⟩], _ => exact ⟨tg, ir, ifs, rfl⟩
    · have h : (L2.blkC X.N X.env.scope scope (ownP X.N own) && decide ((ownP X.N own).map (·.2) = own) && (slotsT t).all (fun i => own.contains i) && mtT X.N (tkB scope X.env.scope) t tg && mtI nm cs X.N X.env.scope x tg ir &&
        mtC (nm.map deC) cs X.N (L2.relS scope X.env.scope) c ifs && mtE (nm.map deC) cs X.N (L2.relS scope X.env.scope) y el && nSet ir) = true := h
      simp only [Bool.and_eq_true] at h
      obtain ⟨⟨⟨⟨⟨⟨⟨h1, h2⟩, h3⟩, h4⟩, h5⟩, h6⟩, h7⟩, h8⟩ := h
      have e2 := of_decide_eq_true h2
      have sub : ∀ j ∈ slotsT t, j ∈ own := fun j hj => by
        have q := List.all_eq_true.mp h3 j hj
        simpa using q
      have pg : ∀ (s : Shared) (H : Hp) (C : Addr) (cl : List (Str × Addr)) (fp : List Addr), PG (X.blk s H scope (compEnvC scope cl C X.env) fp) tg (LG X t) := fun s H C cl fp =>
        pg_imp (sG (X := X.blk s H scope (compEnvC scope cl C X.env) fp) G.calm G.nd (tkB_ok s H scope C cl fp) t tg h4) fun v σ H Q q => q.blk
      have pe : ∀ (s : Shared) (H : Hp) (C : Addr) (cl : List (Str × Addr)) (fp : List Addr), PE (X.blk s H scope (compEnvC scope cl C X.env) fp) el (LE X (fun _ _ _ _ => False) (wE Γ y)) := fun s H C cl fp =>
        pe_imp (he (X.blk s H scope (compEnvC scope cl C X.env) fp) _ el (G.blk s H scope _ fp) h7) fun σ H Q q => q.blk
      clear h
      match c, ifs with
      | none, [] =>
        refine pe_imp (pe_lc G.calm G.nd (hi X W tg ir G h5) (blkOk_by h1) pg (fun _ _ _ _ _ => pts_nil) pe (fun v => folded_of h8 _ v)) fun σ H Q q => ?_
        rw [e2]
        refine le_comp (it := x) (co := none) sub (fun σ H Q q => ?_) (fun σ H Q q => q) σ H Q q
        obtain ⟨ρ, σz, h, F, E, sr, kq, kx, w⟩ := q
        exact kq true h ρ H .refl sr.hr w
      | some c, [f] =>
        have pt : ∀ (s : Shared) (H : Hp) (C : Addr) (cl : List (Str × Addr)) (fp : List Addr), PT (X.blk s H scope (compEnvC scope cl C X.env) fp) f (LT X (fun _ _ _ _ => False) (wT Γ c)) := fun s H C cl fp =>
          pt_imp (hc c rfl (X.blk s H scope (compEnvC scope cl C X.env) fp) _ f (G.blk s H scope _ fp) h6) fun σ H Q q => q.blk
        refine pe_imp (pe_lc G.calm G.nd (hi X W tg ir G h5) (blkOk_by h1) pg (fun s H C cl fp => pts_one (pt s H C cl fp)) pe (fun v => folded_of h8 _ v)) fun σ H Q q => ?_
        rw [e2]
        refine le_comp (it := x) (co := some c) sub (fun σ H Q q => ?_) (fun σ H Q q => q) σ H Q q
        obtain ⟨ρ, σz, h, F, E, sr, kq, kx, w⟩ := q
        exact ⟨ρ, σz, h, F, noX, sr, kq, KXok.no, w⟩
      | none, _ :: _ => cases h6
      | some _, [] => cases h6
      | some _, _ :: _ :: _ => cases h6
  | _ => cases h
theorem oks_nil : SEs Γ nm cs [] := fun X W es G h => by
  cases es with
  | nil => exact za_nil
  | cons _ _ => cases h
theorem oks_cons (hx : SE Γ nm cs x) (hs : SEs Γ nm cs xs) : SEs Γ nm cs (x :: xs) := fun X W es G h => by
  cases es with
  | nil => cases h
  | cons a as =>
    have h : (nStar a && mtE nm cs X.N X.env.scope x a && mtEs nm cs X.N X.env.scope xs as) = true := h
    simp only [Bool.and_eq_true] at h
    exact za_cons (hx X W a G h.1.2) (hs X W as G h.2) (star_of h.1.1 as X.env)
theorem oko_none : SO Γ nm cs none := fun X W e G h => by
  cases e with
  | none => exact zo_none
  | some _ => cases h
theorem oko_some (hx : SE Γ nm cs x) : SO Γ nm cs (some x) := fun X W e G h => by
  cases e with
  | none => cases h
  | some a => exact zo_some (hx X W a G h)
theorem oi_rng1 (hx : SE Γ nm cs x) : SI Γ nm cs (.rng1 x) := fun X W tg e G h => by
  cases e with
  | Call f as ks pos =>
    cases f with
    | Name g p =>
      match as, ks, h with
      | [a], [], h =>
        have h : (g == ("range" : Str) && glB X.env.scope g && nStar a && mtE nm cs X.N X.env.scope x a) = true := h
        simp only [Bool.and_eq_true] at h
        obtain ⟨⟨⟨h1, h2⟩, h3⟩, h4⟩ := h
        obtain rfl := beq_str h1
        exact zi_rng1 (gl_of h2).1 (G.bl "range" (by decide)) (hx X W a G h4) (star_of h3 [] X.env)
    | _ => cases h
  | _ => cases h
theorem oi_enum (hx : SE Γ nm cs x) : SI Γ nm cs (.enum x) := fun X W tg e G h => by
    (cases tg <;> try (cases h; done))
    rename_i es k tp
    (cases e <;> try (cases h; done)); rename_i f as ks pos
    (cases f <;> try (cases h; done)); rename_i g p
    (cases as <;> try (cases h; done)); rename_i a r
    (cases r <;> try (cases h; done)); (cases ks <;> try (cases h; done))
    · · have h : (g == ("enumerate" : Str) && glB X.env.scope g && nStar a && mtE nm cs X.N X.env.scope x a) = true := h
        simp only [Bool.and_eq_true] at h
        obtain ⟨⟨⟨h1, h2⟩, h3⟩, h4⟩ := h
        obtain rfl := beq_str h1
        exact zi_enum (gl_of h2).1 (G.bl "enumerate" (by decide)) (hx X W a G h4) (star_of h3 [] X.env)
theorem oi_wlk (hx : SE Γ nm cs x) : SI Γ nm cs (.wlk x) := fun X W tg e G h => zi_walk (hx X W e G h)

/-! ### as a whole -/
structure OK (Γ : List Spec) (nm : List Cn) (cs : List (Str × PV)) (x : Ex) : Prop where
  e : SE Γ nm cs x
  t : ST Γ nm cs x
  w : SW Γ nm cs x
  i : SI Γ nm cs x
structure OKs (Γ : List Spec) (nm : List Cn) (cs : List (Str × PV)) (xs : List Ex) : Prop where
  e : SEs Γ nm cs xs
  m : ∀ x ∈ xs, OK Γ nm cs x
structure OKo (Γ : List Spec) (nm : List Cn) (cs : List (Str × PV)) (x : Option Ex) : Prop where
  e : SO Γ nm cs x
  m : ∀ y, x = some y → OK Γ nm cs y
theorem okP (h : SE Γ nm cs x) (hp : ∀ N sc e, mtE nm cs N sc x e = true → tPlain e = true) (hi : ∀ N sc tg e, mtI nm cs N sc x tg e = false) : OK Γ nm cs x where
  e := h
  t := fun X W e G m => zt_of (h X W e G m) fun whole => isTrue_of (hp _ _ _ m) X.env whole
  w := fun X W op vs pos G m => by cases hp _ _ _ m
  i := fun X W tg e G m => by rw [hi] at m; cases m
/-- only walked -/
theorem okI (h : SI Γ nm cs x) (hp : ∀ N sc e, mtE nm cs N sc x e = false) : OK Γ nm cs x where
  e := fun X W e G m => by rw [hp] at m; cases m
  t := fun X W e G m => by rw [hp] at m; cases m
  w := fun X W op vs pos G m => by rw [hp] at m; cases m
  i := h
theorem okB (h : SE Γ nm cs x) (t : ST Γ nm cs x) (hw : SW Γ nm cs x) (hi : ∀ N sc tg e, mtI nm cs N sc x tg e = false) : OK Γ nm cs x where
  e := h
  t := t
  w := hw
  i := fun X W tg e G m => by rw [hi] at m; cases m
theorem okT (h : SE Γ nm cs x) (t : ST Γ nm cs x) (hw : ∀ N sc op vs pos, mtE nm cs N sc x (.BoolOp op vs pos) = false) (hi : ∀ N sc tg e, mtI nm cs N sc x tg e = false) : OK Γ nm cs x :=
  okB h t (fun X W op vs pos G m => by rw [hw] at m; cases m) hi
theorem okl_cons (h : OK Γ nm cs x) (hs : OKs Γ nm cs xs) : OKs Γ nm cs (x :: xs) := ⟨oks_cons h.e hs.e, fun y m => by
  rcases List.mem_cons.mp m with e | m
  · rw [e]; exact h
  · exact hs.m y m⟩
theorem okO_some (h : OK Γ nm cs x) : OKo Γ nm cs (some x) := ⟨oko_some h.e, fun y m => by cases m; exact h⟩
/-- what no text has -/
theorem okN (h1 : ∀ (N : List Str) (sc : Scope) (e : Expr), mtE nm cs N sc x e = false) (h2 : ∀ (N : List Str) (sc : Scope) (tg e : Expr), mtI nm cs N sc x tg e = false) : OK Γ nm cs x :=
  okP (fun X W e G h => by rw [h1] at h; cases h) (fun N sc e h => by rw [h1] at h; cases h) h2
theorem okBi {b : BI} (hs : OKs Γ nm cs xs) : OK Γ nm cs (.bi b xs) := by
  have one : ∀ x, xs = [x] → SE Γ nm cs x := fun x e => (hs.m x (by rw [e]; exact List.mem_singleton_self x)).e
  refine okP ?_ (fun N sc e h => by cases e <;> first | rfl | cases h) fun _ _ _ _ => rfl
  cases b with
  | tuple => exact ok_tuple one
  | lenkeys => exact ok_lenkeys one
  | listrange => exact ok_listrange fun x m => (hs.m x m).e
  | xtuple => exact bi_no fun _ _ => rfl
  | dictenum => exact bi_no fun _ _ => rfl
  | lenset => exact bi_no fun _ _ => rfl
  | listitems => exact bi_no fun _ _ => rfl
  | sorteditems => exact bi_no fun _ _ => rfl
  | listzip => exact bi_no fun _ _ => rfl
  | sortedset => exact bi_no fun _ _ => rfl
  | sortedsetp => exact bi_no fun _ _ => rfl
  | tuplerange => exact bi_no fun _ _ => rfl
  | max3 => exact bi_no fun _ _ => rfl
  | min3 => exact bi_no fun _ _ => rfl
  | any => exact bi_no fun _ _ => rfl
  | divmod => exact bi_no fun _ _ => rfl
  | abs => exact bi_no fun _ _ => rfl
  | str1 => exact bi_no fun _ _ => rfl
  | dict => exact bi_no fun _ _ => rfl
  | dictp => exact bi_no fun _ _ => rfl
  | listd => exact bi_no fun _ _ => rfl
  | list => exact bi_no fun _ _ => rfl
  | int => exact bi_no fun _ _ => rfl
  | maxl => exact bi_no fun _ _ => rfl
  | minp => exact bi_no fun _ _ => rfl
  | sortedk => exact bi_no fun _ _ => rfl
  | _ => exact ok_bi1 rfl (by decide) hs.e
mutual
theorem okA : ∀ (x : Ex) {nm : List Cn}, OK Γ nm cs x
  | .var i => okP ok_var (fun N sc e h => by cases e <;> first | rfl | cases h) fun _ _ _ _ => rfl
  | .non => okP ok_non (fun N sc e h => by cases e <;> first | rfl | cases h) fun _ _ _ _ => rfl
  | .bl b => okP ok_bl (fun N sc e h => by cases e <;> first | rfl | cases h) fun _ _ _ _ => rfl
  | .int b => okP ok_int (fun N sc e h => by cases e <;> first | rfl | cases h) fun _ _ _ _ => rfl
  | .str b => okP ok_str (fun N sc e h => by cases e <;> first | rfl | cases h) fun _ _ _ _ => rfl
  | .con x v => okP ok_con (fun N sc e h => by cases e <;> first | rfl | cases h) fun _ _ _ _ => rfl
  | .bin o a b => okP (ok_bin (okA a).e (okA b).e) (fun N sc e h => by cases e <;> first | rfl | cases h) fun _ _ _ _ => rfl
  | .neg a => okP (ok_neg (okA a).e) (fun N sc e h => by
    cases e with
    | UnaryOp op l p => cases op <;> first | rfl | cases h
    | _ => first | rfl | cases h) fun _ _ _ _ => rfl
  | .not a => okT (ok_not (okA a).e) (ot_not (okA a).t) (fun _ _ _ _ _ => rfl) fun _ _ _ _ => rfl
  | .and a b => okB (ok_and (okA a).e (okA b).e) (ot_bool (ow_and (okA a).t (okA b).t (okA b).w) and_bool) (ow_and (okA a).t (okA b).t (okA b).w) fun _ _ _ _ => rfl
  | .or a b => okB (ok_or (okA a).e (okA b).e) (ot_bool (ow_or (okA a).t (okA b).t (okA b).w) or_bool) (ow_or (okA a).t (okA b).t (okA b).w) fun _ _ _ _ => rfl
  | .ife c a b => okT (ok_ife (okA c).t (okA a).e (okA b).e) (ot_ife (okA c).t (okA a).t (okA b).t) (fun _ _ _ _ _ => rfl) fun _ _ _ _ => rfl
  | .cmp o a b => okT (ok_cmp (okA a).e (okA b).e) (ot_cmp (okA a).e (okA b).e) (fun _ _ _ _ _ => rfl) fun _ _ _ _ => rfl
  | .chn o o' a b c => okT (ok_chn (okA a).e (okA b).e (okA c).e) (ot_chn (okA a).e (okA b).e (okA c).e) (fun _ _ _ _ _ => rfl) fun _ _ _ _ => rfl
  | .chn3 _ _ _ _ _ _ _ => okN (fun _ _ _ => rfl) fun _ _ _ _ => rfl
  | .lck _ _ => okN (fun _ _ _ => rfl) fun _ _ _ _ => rfl
  | .lka _ => okN (fun _ _ _ => rfl) fun _ _ _ _ => rfl
  | .rep _ => okN (fun _ _ _ => rfl) fun _ _ _ _ => rfl
  | .mdf _ _ => okN (fun _ _ _ => rfl) fun _ _ _ _ => rfl
  | .rev a => okP (ok_rev (okA a).e) (fun N sc e h => by cases e <;> first | rfl | cases h) fun _ _ _ _ => rfl
  | .revt _ => okN (fun _ _ _ => rfl) fun _ _ _ _ => rfl
  | .dt1 _ _ => okN (fun _ _ _ => rfl) fun _ _ _ _ => rfl
  | .dcl _ => okN (fun _ _ _ => rfl) fun _ _ _ _ => rfl
  | .tup es => okP (ok_tup (okL es).e) (fun N sc e h => by cases e <;> first | rfl | cases h) fun _ _ _ _ => rfl
  | .xtp es => okP (ok_xtp (okL es).e) (fun N sc e h => by cases e <;> first | rfl | cases h) fun _ _ _ _ => rfl
  | .stp _ _ => okN (fun _ _ _ => rfl) fun _ _ _ _ => rfl
  | .dg1 _ _ => okN (fun _ _ _ => rfl) fun _ _ _ _ => rfl
  | .dg2 _ _ _ => okN (fun _ _ _ => rfl) fun _ _ _ _ => rfl
  | .sm _ _ _ => okN (fun _ _ _ => rfl) fun _ _ _ _ => rfl
  | .dcd _ _ => okN (fun _ _ _ => rfl) fun _ _ _ _ => rfl
  | .lst es => okP (ok_lst (okL es).e) (fun N sc e h => by cases e <;> first | rfl | cases h) fun _ _ _ _ => rfl
  | .dct => okP ok_dct (fun N sc e h => by cases e <;> first | rfl | cases h) fun _ _ _ _ => rfl
  | .idx a i => okP (ok_idx (okA a).e (okA i).e) (fun N sc e h => by cases e <;> first | rfl | cases h) fun _ _ _ _ => rfl
  | .slc a lo hi => okP (ok_slc (okA a).e (okO lo).e (okO hi).e) (fun N sc e h => by cases e <;> first | rfl | cases h) fun _ _ _ _ => rfl
  | .call f es => okP (ok_call (okL es).e) (fun N sc e h => by cases e <;> first | rfl | cases h) fun _ _ _ _ => rfl
  | .bi b es => okBi (okL es)
  | .fldx _ _ _ => okN (fun _ _ _ => rfl) fun _ _ _ _ => rfl
  | .fld _ _ _ => okN (fun _ _ _ => rfl) fun _ _ _ _ => rfl
  | .mth _ _ _ _ _ => okN (fun _ _ _ => rfl) fun _ _ _ _ => rfl
  | .new _ _ _ => okN (fun _ _ _ => rfl) fun _ _ _ _ => rfl
  | .mi m a es => okP (ok_mi (okA a).e fun x e => ((okL es).m x e).e) (fun N sc e h => by cases e <;> first | rfl | cases h) fun _ _ _ _ => rfl
  | .isxs _ _ _ => okN (fun _ _ _ => rfl) fun _ _ _ _ => rfl
  | .isx a rs c => okP (ok_isx (okA a).e) (fun N sc e h => by cases e <;> first | rfl | cases h) fun _ _ _ _ => rfl
  | .isi a t => okP (ok_isi (okA a).e) (fun N sc e h => by cases e <;> first | rfl | cases h) fun _ _ _ _ => rfl
  | .comp own t it c e => okP (ok_comp (okA it).i (fun y ey => ((okO c).m y ey).t) (okA e).e) (fun N sc e h => by cases e <;> first | rfl | cases h) fun _ _ _ _ => rfl
  | .rpl _ => okN (fun _ _ _ => rfl) fun _ _ _ _ => rfl
  | .rpd _ => okN (fun _ _ _ => rfl) fun _ _ _ _ => rfl
  | .act j => okP ok_act (fun N sc e h => by cases e <;> first | rfl | cases h) fun _ _ _ _ => rfl
  | .lmc _ _ _ => okN (fun _ _ _ => rfl) fun _ _ _ _ => rfl
  | .skl _ _ _ _ => okN (fun _ _ _ => rfl) fun _ _ _ _ => rfl
  | .dsd _ _ _ => okN (fun _ _ _ => rfl) fun _ _ _ _ => rfl
  | .kin _ _ _ _ => okN (fun _ _ _ => rfl) fun _ _ _ _ => rfl
  | .kix _ _ _ => okN (fun _ _ _ => rfl) fun _ _ _ _ => rfl
  | .tix _ _ => okN (fun _ _ _ => rfl) fun _ _ _ _ => rfl
  | .dpop _ _ => okN (fun _ _ _ => rfl) fun _ _ _ _ => rfl
  | .lmv j m ds k => okP ok_lmv (fun N sc e h => by cases e <;> first | rfl | cases h) fun _ _ _ _ => rfl
  | .coms i j m p k ds bs tl => okP (ok_coms fun b hb => ((okL bs).m b hb).e) (fun N sc e h => by cases e <;> first | rfl | cases h) fun _ _ _ _ => rfl
  | .lrv _ => okN (fun _ _ _ => rfl) fun _ _ _ _ => rfl
  | .wld _ => okN (fun _ _ _ => rfl) fun _ _ _ _ => rfl
  | .wlx _ => okN (fun _ _ _ => rfl) fun _ _ _ _ => rfl
  | .wlk a => okI (oi_wlk (okA a).e) fun _ _ _ => rfl
  | .its _ => okN (fun _ _ _ => rfl) fun _ _ _ _ => rfl
  | .rng1 a => okI (oi_rng1 (okA a).e) fun _ _ _ => rfl
  | .rng2 _ _ => okN (fun _ _ _ => rfl) fun _ _ _ _ => rfl
  | .rng3 _ _ _ => okN (fun _ _ _ => rfl) fun _ _ _ _ => rfl
  | .enum a => okI (oi_enum (okA a).e) fun _ _ _ => rfl
  | .enums _ _ => okN (fun _ _ _ => rfl) fun _ _ _ _ => rfl
  | .rvs _ => okN (fun _ _ _ => rfl) fun _ _ _ _ => rfl
  | .zip _ _ => okN (fun _ _ _ => rfl) fun _ _ _ _ => rfl
  | .zipn _ _ => okN (fun _ _ _ => rfl) fun _ _ _ _ => rfl
termination_by structural x => x
theorem okL : ∀ (xs : List Ex) {nm : List Cn}, OKs Γ nm cs xs
  | [] => ⟨oks_nil, fun x h => by cases h⟩
  | x :: xs => okl_cons (okA x) (okL xs)
termination_by structural xs => xs
theorem okO : ∀ (x : Option Ex) {nm : List Cn}, OKo Γ nm cs x
  | none => ⟨oko_none, fun y h => by cases h⟩
  | some x => okO_some (okA x)
termination_by structural x => x
end
end
end Z

/-! ZsO: statements as a whole. -/
namespace Z
open PySem PyProof.Rows L2

/-! ### the order of the stores -/
def swNms (sc : Scope) (ts : List Expr) : List Str := ts.filterMap fun
  | .Name id pos => if sc.names.lookup id == some .local && pos.line == (ts.head?.map (·.pos.line)).getD 0 then some id else none
  | _ => none
def isStarX : Expr → Bool
  | .Starred .. => true
  | _ => false
/-- the stores go in their order -/
def swNo (sc : Scope) (ts vs : List Expr) : Bool :=
  (!(ts.length == 2 || ts.length == 3) || vs.length != ts.length) || vs.any isStarX || ((swNms sc ts).length != ts.length || (swNms sc ts).eraseDups.length != (swNms sc ts).length) || vs.all (foldedForSure 8)
def swYes (sc : Scope) (ts vs : List Expr) : Bool :=
  !(!(ts.length == 2 || ts.length == 3) || vs.length != ts.length) && !vs.any isStarX && !((swNms sc ts).length != ts.length || (swNms sc ts).eraseDups.length != (swNms sc ts).length) && !vs.all (foldedForSure 8) && !vs.all (constantsAlone 8)
section
variable {env : PySem.Env} {ts vs : List Expr} {k k2 : Nat} {p p2 : Pos}
theorem sw_no (hk : env.blockKind = .function) (h : swNo env.scope ts vs = true) : swappedStores [.Tuple ts k p] (.Tuple vs k2 p2) env = pure none := by
  unfold swappedStores
  simp only [hk, bne_self_eq_false, Bool.or_false]
  unfold swNo at h
  simp only [Bool.or_eq_true] at h
  split
  · rfl
  · rename_i n1
    split
    · rfl
    · rename_i n2
      split
      · rfl
      · rename_i n3
        split
        · rfl
        · rename_i n4
          exfalso
          rcases h with ((h | h) | h) | h
          · exact n1 (by rw [Bool.or_eq_true]; exact h)
          · exact n2 h
          · exact n3 (by show ((swNms env.scope ts).length != ts.length || (swNms env.scope ts).eraseDups.length != (swNms env.scope ts).length) = true; rw [Bool.or_eq_true]; exact h)
          · exact n4 h
theorem sw_yes (hk : env.blockKind = .function) (h : swYes env.scope ts vs = true) : swappedStores [.Tuple ts k p] (.Tuple vs k2 p2) env = pure (some (swNms env.scope ts)) := by
  unfold swappedStores
  simp only [hk, bne_self_eq_false, Bool.or_false]
  unfold swYes at h
  simp only [Bool.and_eq_true, Bool.not_eq_true'] at h
  obtain ⟨⟨⟨⟨h1, h2⟩, h3⟩, h4⟩, h5⟩ := h
  rw [if_neg (by rw [h1]; decide)]
  rw [if_neg (by show ¬ vs.any isStarX = true; rw [h2]; decide)]
  rw [if_neg (by show ¬ ((swNms env.scope ts).length != ts.length || (swNms env.scope ts).eraseDups.length != (swNms env.scope ts).length) = true; rw [h3]; decide)]
  rw [if_neg (by rw [h4]; decide), if_neg (by rw [h5]; decide)]
  rfl
end

/-! ### looks -/
def nTup : Expr → Bool
  | .Tuple .. => false
  | _ => true
/-- the swap of a comprehension's store and its end -/
def swLc (sc : Scope) (tg a : Expr) : Bool := match tg, a with
  | .Name y py, .ListComp _ _ scope pos => lkB sc y .local && py.line == pos.line && !(scope.names.any fun (n, k) => n == y && (k == .local || k == .cell))
  | _, _ => false
def stNo (sc : Scope) (tg a : Expr) : Bool := match tg, a with
  | .Tuple ts _ _, .Tuple vs _ _ => swNo sc ts vs
  | .Tuple _ _ _, a => nTup a
  | .Name _ _, _ => true
  | _, _ => false
/-- a comprehension stored in a cell: no swap -/
def clLc (sc : Scope) (tg a : Expr) : Bool := match tg, a with
  | .Name y _, .ListComp _ _ _ _ => lkB sc y .cell
  | _, _ => false
/-- raise C('text') -/
def raiB (nm : List Cn) (sc : Scope) (c : Str) : Stmt → Bool
  | .Raise (some (.Call (.Name x _) [.Constant (.str _) _ _] [] _)) none _ => x == c && glB sc x && nm.any fun q => decide (q = .er c)
  | _ => false
/-- try: body except C as n: m = n; its body -/
def trykF (nm : List Cn) (N : List Str) (sc : Scope) (es : List Str) (c : Str) (i j : Nat) : Stmt → Option (List Stmt)
  | .Try body [.ExceptHandler (some (.Name x _)) (some n) [.Assign [.Name m _] (.Name n' _) _] _] [] [] _ => if (x == c && glB sc x && decide (N[i]? = some n) && decide (N[j]? = some m) && n' == n && decide (i ≠ j) && lkB sc n .local && lkB sc m .local &&
      !(n == ("__debug__" : Str)) && !(n == ("__classdict__" : Str)) && nm.any (fun q => match q with | .xs rs ts => es.all (fun a => rs.contains a) && !rs.isEmpty && ts.contains c | _ => false)) = true then some body else none
  | _ => none
theorem raiB_inv {nm : List Cn} {sc : Scope} {c : Str} {t : Stmt} (h : raiB nm sc c t = true) : ∃ p m j p2 p3 pos, t = .Raise (some (.Call (.Name c p) [.Constant (.str m) j p2] [] p3)) none pos ∧ glB sc c = true ∧ .er c ∈ nm := by
  unfold raiB at h
  split at h
  · simp only [Bool.and_eq_true] at h
    obtain rfl := beq_str h.1.1
    obtain ⟨q, hq, e⟩ := List.any_eq_true.mp h.2
    have e := of_decide_eq_true e
    subst e
    exact ⟨_, _, _, _, _, _, rfl, h.1.2, hq⟩
  · cases h
theorem trykF_inv {nm : List Cn} {N : List Str} {sc : Scope} {es : List Str} {c : Str} {i j : Nat} {t : Stmt} {body : List Stmt} (h : trykF nm N sc es c i j t = some body) :
    ∃ np n m p1 p2 p3 pos' pos rs ts, t = .Try body [.ExceptHandler (some (.Name c np)) (some n) [.Assign [.Name m p1] (.Name n p2) p3] pos'] [] [] pos ∧ glB sc c = true ∧ N[i]? = some n ∧ N[j]? = some m ∧ i ≠ j ∧ lkB sc n .local = true ∧ lkB sc m .local = true ∧
      (n == ("__debug__" : Str)) = false ∧ (n == ("__classdict__" : Str)) = false ∧ .xs rs ts ∈ nm ∧ (∀ a ∈ es, a ∈ rs) ∧ c ∈ ts ∧ rs ≠ [] := by
  unfold trykF at h
  split at h
  · split at h
    · rename_i g
      cases h
      simp only [Bool.and_eq_true] at g
      obtain ⟨⟨⟨⟨⟨⟨⟨⟨⟨⟨h1, h2⟩, h3⟩, h4⟩, h5⟩, h6⟩, h7⟩, h8⟩, h9⟩, h10⟩, h11⟩ := g
      obtain rfl := beq_str h1
      obtain rfl := beq_str h5
      obtain ⟨q, hq, e⟩ := List.any_eq_true.mp h11
      cases q with
      | xs rs ts =>
        have e : (es.all (fun a => rs.contains a) && !rs.isEmpty && ts.contains _) = true := e
        simp only [Bool.and_eq_true] at e
        exact ⟨_, _, _, _, _, _, _, _, rs, ts, rfl, h2, of_decide_eq_true h3, of_decide_eq_true h4, of_decide_eq_true h6, h7, h8, by simpa using h9, by simpa using h10, hq, fun a ha => by simpa using List.all_eq_true.mp e.1.1 a ha, by simpa using e.2, fun z => by rw [z] at e; exact absurd e.1.2 (by simp)⟩
      | _ => cases e
    · cases h
  · cases h
def isCmp : Ex → Bool
  | .comp _ _ _ _ _ => true
  | _ => false
def asgOk (sc : Scope) (tg a : Expr) : Bool := (nComp a && stNo sc tg a)
mutual
def mtS (nm : List Cn) (cs : List (Str × PV)) (N : List Str) (sc : Scope) : Sm → Stmt → Bool
  | .set t e, .Assign [tg] a _ => mtT N (tkD sc) t tg && mtE nm cs N sc e a && (asgOk sc tg a || (swLc sc tg a && isCmp e) || clLc sc tg a)
  | .par i j x y, .Assign [.Tuple [.Name n px, .Name n2 py] kt pt] (.Tuple [a, b] _ _) _ => decide (N[i]? = some n) && decide (N[j]? = some n2) && decide (i ≠ j) && lkB sc n .local && lkB sc n2 .local && nStar a && nStar b && swYes sc [.Name n px, .Name n2 py] [a, b] && decide (swNms sc [.Name n px, .Name n2 py] = [n, n2]) && mtE nm cs N sc x a && mtE nm cs N sc y b
  | .sto o i e, .Assign [.Subscript a b _] c _ => mtE nm cs N sc o a && mtE nm cs N sc i b && mtE nm cs N sc e c
  | .exp e, .Expr a _ => nComp a && mtE nm cs N sc e a
  | .ret e, .Return (some a) _ => mtE nm cs N sc e a
  | .retN, .Return none _ => true
  | .ife c x y, .If t a b _ => mtE nm cs N sc c t && mtSs nm cs N sc x a && mtSs nm cs N sc y b
  | .whl c x, .While t a [] _ => mtE nm cs N sc c t && mtSs nm cs N sc x a
  | .for_ t it x, .For tg ir a [] _ => mtT N (tkD sc) t tg && mtI nm cs N sc it tg ir && nSet ir && mtSs nm cs N sc x a
  | .rai c, t => raiB nm sc c t
  | .tryk b es c i j, t => (match trykF nm N sc es c i j t with | some body => mtSs nm cs N sc b body | none => false)
  | .brk, .Break _ => true
  | .cnt, .Continue _ => true
  | .pss, .Pass _ => true
  | .doc, .Expr (.Constant (.str _) _ _) _ => true
  | .nev, _ => true
  | _, _ => false
termination_by structural s => s
def mtSs (nm : List Cn) (cs : List (Str × PV)) (N : List Str) (sc : Scope) : List Sm → List Stmt → Bool
  | [], [] => true
  | s :: ss, t :: ts => mtS nm cs N sc s t && mtSs nm cs N sc ss ts
  | _, _ => false
termination_by structural s => s
end

structure Gods (X : Cx) (W : WX) (nm : List Cn) (cs : List (Str × PV)) (Γ : List Spec) : Prop extends Good X W nm cs Γ where
  po : PassesOwn (model X.prog X.w) X.A X.env X.xe
  all : ∀ x, X.fn x = true
  kind : X.env.scope.kind = .function
  hs : X.stack = X.env :: X.outer
  hf : X.env.frame = some X.env.locals
  hex : X.ex = []
def SS (Γ : List Spec) (nm : List Cn) (cs : List (Str × PV)) (s : Sm) : Prop := ∀ (X : Cx) (W : WX) (t : Stmt), Gods X W nm cs Γ → mtS nm cs X.N X.env.scope s t = true → PS X t (LS X W (wS Γ s))
def SSs (Γ : List Spec) (nm : List Cn) (cs : List (Str × PV)) (s : List Sm) : Prop := ∀ (X : Cx) (W : WX) (t : List Stmt), Gods X W nm cs Γ → mtSs nm cs X.N X.env.scope s t = true → PSs X t (LS X W (wSs Γ s))
section
variable {X : Cx} {W : WX} {nm : List Cn} {cs : List (Str × PV)} {Γ : List Spec}
theorem Gods.bk (G : Gods X W nm cs Γ) : X.env.blockKind = .function := by unfold Env.blockKind; rw [G.kind]; rfl
theorem stNo_ok (G : Gods X W nm cs Γ) {tg a : Expr} (h : stNo X.env.scope tg a = true) : swappedStores [tg] a X.env = pure none ∧ (assignEach [tg] X.env).map (·.2) = [assign tg X.env] := by
  cases tg with
  | Name y p => exact ⟨rfl, rfl⟩
  | Tuple ts k p =>
    cases a with
    | Tuple vs k2 p2 => exact ⟨sw_no G.bk h, rfl⟩
    | _ => exact ⟨rfl, rfl⟩
  | _ => cases h
theorem set_comp {own : List Nat} {t : Tg} {c : Option Ex} {x y : Ex} {i : Nat} {nme : Str} {py pos spos : Pos} {el : Expr} {gens : List Comprehension} {scope : Scope} (G' : Gods X W nm cs Γ) (hyi : X.N[i]? = some nme) (hyl : X.env.scope.names.lookup nme = some .local)
    (hsw : swapsWith (.ListComp el gens scope pos) (some (.Name nme py)) spos.line X.env = pure true) (h : mtE nm cs X.N X.env.scope (.comp own t x c y) (.ListComp el gens scope pos) = true) :
    PS X (.Assign [.Name nme py] (.ListComp el gens scope pos) spos) (LS X W (wS Γ (.set (.nm i) (.comp own t x c y)))) := by
    have G := G'.toGood
    have hi : SI Γ nm cs x := (okA x).i
    have hc : SC Γ (nm.map deC) cs c := fun z ez => ((okO c).m z ez).t
    have he : SE Γ (nm.map deC) cs y := (okA y).e
    have close : ∀ (D : Ends) (σ : L2.St) (H : Hp), LS X W (wS Γ (.set (.nm i) (.comp own t x c y))) D σ H → LE X W (wE Γ (.comp own t x c y)) σ H fun v H1 => gName i v σ H1 D.nx := by
      intro D σ H ⟨ρ, σz, h, Dd, s, k, w⟩
      refine ⟨ρ, σz, h, fun r h1 => Dd.nx (σz.set i (some r)) h1, _, s, fun r h' ρ' H' v n hr rp w' => ?_, k.kx s, w⟩
      exact k.nx ρ' (σz.set i (some r)) h' (σ.set i (some v)) H' n ((s.nx n hr).set i rp) w'
    obtain ⟨tg, ir, ifs, rfl⟩ : ∃ tg ir ifs, gens = [⟨tg, ir, ifs, 0⟩] := by
      match gens, h with
      | [⟨tg, ir, ifs, 0⟩], _ => exact ⟨tg, ir, ifs, rfl⟩
    · have h : (L2.blkC X.N X.env.scope scope (ownP X.N own) && decide ((ownP X.N own).map (·.2) = own) && (slotsT t).all (fun i => own.contains i) && mtT X.N (tkB scope X.env.scope) t tg && mtI nm cs X.N X.env.scope x tg ir &&
        mtC (nm.map deC) cs X.N (L2.relS scope X.env.scope) c ifs && mtE (nm.map deC) cs X.N (L2.relS scope X.env.scope) y el && nSet ir) = true := h
      simp only [Bool.and_eq_true] at h
      obtain ⟨⟨⟨⟨⟨⟨⟨h1, h2⟩, h3⟩, h4⟩, h5⟩, h6⟩, h7⟩, h8⟩ := h
      have e2 := of_decide_eq_true h2
      have sub : ∀ j ∈ slotsT t, j ∈ own := fun j hj => by
        have q := List.all_eq_true.mp h3 j hj
        simpa using q
      have pg : ∀ (s : Shared) (H : Hp) (C : Addr) (cl : List (Str × Addr)) (fp : List Addr), PG (X.blk s H scope (compEnvC scope cl C X.env) fp) tg (LG X t) := fun s H C cl fp =>
        pg_imp (sG (X := X.blk s H scope (compEnvC scope cl C X.env) fp) G.calm G.nd (tkB_ok s H scope C cl fp) t tg h4) fun v σ H Q q => q.blk
      have pe : ∀ (s : Shared) (H : Hp) (C : Addr) (cl : List (Str × Addr)) (fp : List Addr), PE (X.blk s H scope (compEnvC scope cl C X.env) fp) el (LE X (fun _ _ _ _ => False) (wE Γ y)) := fun s H C cl fp =>
        pe_imp (he (X.blk s H scope (compEnvC scope cl C X.env) fp) _ el (G.blk s H scope _ fp) h7) fun σ H Q q => q.blk
      clear h
      match c, ifs with
      | none, [] =>
        refine ps_imp (ps_setLc G.calm G.nd hyi hyl hsw (hi X W tg ir G h5) (blkOk_by h1) pg (fun _ _ _ _ _ => pts_nil) pe (fun v => folded_of h8 _ v)) fun D σ H q => ?_
        rw [e2]
        have q := close D σ H q
        refine le_comp (it := x) (co := none) sub (fun σ H Q q => ?_) (fun σ H Q q => q) σ H _ q
        obtain ⟨ρ, σz, h, F, E, sr, kq, kx, w⟩ := q
        exact kq true h ρ H .refl sr.hr w
      | some c, [f] =>
        have pt : ∀ (s : Shared) (H : Hp) (C : Addr) (cl : List (Str × Addr)) (fp : List Addr), PT (X.blk s H scope (compEnvC scope cl C X.env) fp) f (LT X (fun _ _ _ _ => False) (wT Γ c)) := fun s H C cl fp =>
          pt_imp (hc c rfl (X.blk s H scope (compEnvC scope cl C X.env) fp) _ f (G.blk s H scope _ fp) h6) fun σ H Q q => q.blk
        refine ps_imp (ps_setLc G.calm G.nd hyi hyl hsw (hi X W tg ir G h5) (blkOk_by h1) pg (fun s H C cl fp => pts_one (pt s H C cl fp)) pe (fun v => folded_of h8 _ v)) fun D σ H q => ?_
        rw [e2]
        have q := close D σ H q
        refine le_comp (it := x) (co := some c) sub (fun σ H Q q => ?_) (fun σ H Q q => q) σ H _ q
        obtain ⟨ρ, σz, h, F, E, sr, kq, kx, w⟩ := q
        exact ⟨ρ, σz, h, F, noX, sr, kq, KXok.no, w⟩
      | none, _ :: _ => cases h6
      | some _, [] => cases h6
      | some _, _ :: _ :: _ => cases h6
theorem sw_cell {env : PySem.Env} {y : Str} {py lp : Pos} {el : Expr} {gens : List Comprehension} {scope : Scope} {l : Nat} (h : env.scope.names.lookup y = some .cell) : swapsWithSole [.Name y py] (.ListComp el gens scope lp) l env = pure false := by
  have k : (env.kindOf y == some NameKind.local) = false := by
    unfold Env.kindOf
    rw [h]; rfl
  show (pure (env.blockKind == .function && env.kindOf y == some .local && py.line == lp.line && !(scope.names.any fun (n, k) => n == y && (k == .local || k == .cell))) : Sem Bool) = pure false
  rw [k, Bool.and_false]
  rfl
theorem os_set {t : Tg} {e : Ex} : SS Γ nm cs (.set t e) := fun X W st G h => by
  cases st with
  | Assign tgs a pos =>
    match tgs, h with
    | [tg], h =>
      have h : (mtT X.N (tkD X.env.scope) t tg && mtE nm cs X.N X.env.scope e a && (asgOk X.env.scope tg a || (swLc X.env.scope tg a && isCmp e) || clLc X.env.scope tg a)) = true := h
      simp only [Bool.and_eq_true] at h
      obtain ⟨⟨h1, h2⟩, h3⟩ := h
      have pg := sG G.calm G.nd (tkD_ok G.all) t tg h1
      cases e1 : asgOk X.env.scope tg a with
      | true =>
        unfold asgOk at e1
        rw [Bool.and_eq_true] at e1
        obtain ⟨q1, q2⟩ := stNo_ok G e1.2
        exact zs_set ((okA e).e X W a G.toGood h2) pg (swap_no e1.1 _ _ _) q1 q2
      | false =>
        rw [e1, Bool.false_or] at h3
        cases e4 : clLc X.env.scope tg a with
        | true =>
          cases tg <;> try (cases e4; done)
          rename_i y py
          cases a <;> try (cases e4; done)
          rename_i el gens scope lp
          · have e4 : X.env.scope.names.lookup y = some .cell := of_decide_eq_true e4
            exact zs_set ((okA e).e X W _ G.toGood h2) pg (sw_cell e4) rfl rfl
        | false =>
        rw [e4, Bool.or_false, Bool.and_eq_true] at h3
        obtain ⟨h3, hcmp⟩ := h3
        cases tg <;> try (cases h3; done)
        rename_i y py
        cases a <;> try (cases h3; done)
        rename_i el gens scope lp _
        · have h3 : (lkB X.env.scope y .local && py.line == lp.line && !(scope.names.any fun (n, k) => n == y && (k == .local || k == .cell))) = true := h3
          simp only [Bool.and_eq_true, Bool.not_eq_true'] at h3
          obtain ⟨⟨h4, h5⟩, h6⟩ := h3
          have yl : X.env.scope.names.lookup y = some .local := of_decide_eq_true h4
          have sw := sw_true (elt := el) (gs := gens) (l := pos.line) G.kind yl h5 h6
          cases t with
          | tp _ => cases h1
          | nm i =>
            have h1 : (decide (X.N[i]? = some y) && tkD X.env.scope y) = true := h1
            rw [Bool.and_eq_true] at h1
            cases e with
            | comp own t x c z => exact set_comp G (of_decide_eq_true h1.1) yl sw h2
            | _ => cases hcmp
  | _ => cases h
theorem os_par {i j : Nat} {x y : Ex} : SS Γ nm cs (.par i j x y) := fun X W st G h => by
    (cases st <;> try (cases h; done)); rename_i tgs v pos
    (cases tgs <;> try (cases h; done)); rename_i tg r
    (cases tg <;> try (cases h; done)); rename_i ts kt pt
    (cases ts <;> try (cases h; done)); rename_i e1 ts
    (cases e1 <;> try (cases h; done)); rename_i n px
    (cases ts <;> try (cases h; done)); rename_i e2 ts
    (cases e2 <;> try (cases h; done)); rename_i n2 py
    (cases ts <;> try (cases h; done)); (cases r <;> try (cases h; done))
    (cases v <;> try (cases h; done)); rename_i vs k2 pt2
    (cases vs <;> try (cases h; done)); rename_i a vs
    (cases vs <;> try (cases h; done)); rename_i b vs
    (cases vs <;> try (cases h; done))
    · have h : (decide (X.N[i]? = some n) && decide (X.N[j]? = some n2) && decide (i ≠ j) && lkB X.env.scope n .local && lkB X.env.scope n2 .local && nStar a && nStar b && swYes X.env.scope [.Name n px, .Name n2 py] [a, b] && decide (swNms X.env.scope [.Name n px, .Name n2 py] = [n, n2]) && mtE nm cs X.N X.env.scope x a && mtE nm cs X.N X.env.scope y b) = true := h
      simp only [Bool.and_eq_true] at h
      obtain ⟨⟨⟨⟨⟨⟨⟨⟨⟨⟨h1, h2⟩, h3⟩, h4⟩, h5⟩, h6⟩, h7⟩, h8⟩, h9⟩, h10⟩, h11⟩ := h
      have sw := sw_yes (k := kt) (p := pt) (k2 := k2) (p2 := pt2) G.bk h8
      rw [of_decide_eq_true h9] at sw
      exact zs_par G.calm G.nd (of_decide_eq_true h1) (of_decide_eq_true h2) (of_decide_eq_true h3) (of_decide_eq_true h4) (of_decide_eq_true h5) ((okA x).e X W a G.toGood h10) ((okA y).e X W b G.toGood h11) (star_of h6 _ _) (star_of h7 _ _) sw
theorem os_sto {x y z : Ex} : SS Γ nm cs (.sto x y z) := fun X W st G h => by
    (cases st <;> try (cases h; done)); rename_i tgs v pos
    (cases tgs <;> try (cases h; done)); rename_i tg r
    (cases tg <;> try (cases h; done)); rename_i a b p2
    (cases r <;> try (cases h; done))
    · have h : (mtE nm cs X.N X.env.scope x a && mtE nm cs X.N X.env.scope y b && mtE nm cs X.N X.env.scope z v) = true := h
      simp only [Bool.and_eq_true] at h
      exact zs_sto (by have := G.un; omega) ((okA z).e X W v G.toGood h.2) ((okA x).e X W a G.toGood h.1.1) ((okA y).e X W b G.toGood h.1.2) (by cases v <;> rfl)
theorem ok_rai {c : Str} {t : Stmt} (G : Gods X W nm cs Γ) (h : raiB nm X.env.scope c t = true) : PS X t (LS X W (wS Γ (.rai c))) := by
  obtain ⟨p, m, j, p2, p3, pos, rfl, g, hq⟩ := raiB_inv h
  obtain ⟨g1, g2⟩ := gl_of g
  obtain ⟨k, hk⟩ := List.mem_iff_getElem?.mp hq
  obtain ⟨S, _, er⟩ := G.fn k _ hk
  exact zs_rai er G.calm G.tk g1 g2
theorem sr_tr {X : Cx} {pn : List (Addr × Obj)} {xe : Value → Shared → Prop} {ρ : List Addr} {σz : Env} {h : Hep} {σ : L2.St} {H : Hp} (s : SR X ρ σz h σ H) : SR (X.tr pn xe) ρ σz h σ H := ⟨s.hr, s.len, s.sl⟩
theorem sr_un {X : Cx} {pn : List (Addr × Obj)} {xe : Value → Shared → Prop} {ρ : List Addr} {σz : Env} {h : Hep} {σ : L2.St} {H : Hp} (s : SR (X.tr pn xe) ρ σz h σ H) : SR X ρ σz h σ H := ⟨s.hr, s.len, s.sl⟩
theorem ls_tr {X : Cx} {pn : List (Addr × Obj)} {xe : Value → Shared → Prop} {W : WX} {w : Env → Hep → Dz → Prop} (D : Ends) (σ : L2.St) (H : Hp) (q : LS X W w D σ H) : LS (X.tr pn xe) W w D σ H := by
  obtain ⟨ρ, σz, h, Dd, s, k, w⟩ := q
  exact ⟨ρ, σz, h, Dd, sr_tr s, ⟨fun a b c d e n s' => k.nx a b c d e n (sr_un s'), fun a b c d e n s' => k.bk a b c d e n (sr_un s'), fun a b c d e n s' => k.ct a b c d e n (sr_un s'), k.rt, fun a b c d e f g i n s' => k.ex a b c d e f g i n (sr_un s')⟩, w⟩
theorem ok_tryk {b : List Sm} {es : List Str} {c : Str} {i j : Nat} {t : Stmt} (hb : SSs Γ nm cs b) (G : Gods X W nm cs Γ) (h : (match trykF nm X.N X.env.scope es c i j t with | some body => mtSs nm cs X.N X.env.scope b body | none => false) = true) : PS X t (LS X W (wS Γ (.tryk b es c i j))) := by
  cases q : trykF nm X.N X.env.scope es c i j t with
  | none => rw [q] at h; cases h
  | some body =>
    rw [q] at h
    obtain ⟨np, n, m, p1, p2, p3, pos', pos, rs, ts, rfl, h2, h3, h4, h6, h7, h8, h9, h10, hq, hes, hct, hrs⟩ := trykF_inv q
    obtain ⟨g1, g2⟩ := gl_of h2
    obtain ⟨k, hk⟩ := List.mem_iff_getElem?.mp hq
    obtain ⟨S, _, xr⟩ := G.fn k _ hk
    refine zs_tryk xr hes hct G.hs G.hf G.hex G.nd h3 h4 h6 (of_decide_eq_true h7) (of_decide_eq_true h8) g1 g2 h9 h10 G.tk hrs fun W' pn xe tk' po' => ?_
    exact pss_imp (hb (X.tr pn xe) W' body { calm := G.calm, nd := G.nd, u2 := G.u2, tk := tk', bl := G.bl, fn := fun i x e => G.fn i x e, cn := G.cn, lm := G.lm, po := po', all := G.all, kind := G.kind, hs := G.hs, hf := G.hf, hex := G.hex } h) ls_tr
/-- a statement that no text has -/
theorem osN {s : Sm} (h1 : ∀ (N : List Str) (sc : Scope) (t : Stmt), mtS nm cs N sc s t = false) : SS Γ nm cs s := fun X W t G h => by rw [h1] at h; cases h
mutual
theorem okS : ∀ s : Sm, SS Γ nm cs s
  | .set t e => os_set
  | .par i j a b => os_par
  | .par3 _ _ _ _ _ _ => osN fun _ _ _ => rfl
  | .sto o i e => os_sto
  | .stf _ _ _ _ => osN fun _ _ _ => rfl
  | .fau _ _ _ _ _ => osN fun _ _ _ => rfl
  | .aug _ _ _ => osN fun _ _ _ => rfl
  | .augi _ _ _ _ => osN fun _ _ _ => rfl
  | .exp e => fun X W st G h => by
    cases st with
    | Expr a pos =>
      have h : (nComp a && mtE nm cs X.N X.env.scope e a) = true := h
      rw [Bool.and_eq_true] at h
      exact zs_exp ((okA e).e X W a G.toGood h.2) (swap_no h.1 _ _ _)
    | _ => cases h
  | .lcs _ _ => osN fun _ _ _ => rfl
  | .lca _ => osN fun _ _ _ => rfl
  | .ret e => fun X W st G h => by
    cases st with
    | Return a pos =>
      cases a with
      | some a => exact zs_ret ((okA e).e X W a G.toGood h)
      | none => cases h
    | _ => cases h
  | .retN => fun X W st G h => by
    cases st with
    | Return a pos =>
      cases a with
      | none => exact zs_retN
      | some a => cases h
    | _ => cases h
  | .ife c x y => 
    have hx := okSs x
    have hy := okSs y
    fun X W st G h => by
    cases st with
    | If t a b pos =>
      have h : (mtE nm cs X.N X.env.scope c t && mtSs nm cs X.N X.env.scope x a && mtSs nm cs X.N X.env.scope y b) = true := h
      simp only [Bool.and_eq_true] at h
      exact zs_ife ((okA c).t X W t G.toGood h.1.1) (hx X W a G h.1.2) (hy X W b G h.2)
    | _ => cases h
  | .whl c x => 
    have hx := okSs x
    fun X W st G h => by
    cases st with
    | While t a e pos =>
      cases e with
      | nil =>
        have h : (mtE nm cs X.N X.env.scope c t && mtSs nm cs X.N X.env.scope x a) = true := h
        simp only [Bool.and_eq_true] at h
        exact zs_whl G.po ((okA c).t X W t G.toGood h.1) (hx X W a G h.2)
      | cons _ _ => cases h
    | _ => cases h
  | .for_ t it x => 
    have hx := okSs x
    fun X W st G h => by
    cases st with
    | For tg ir a e pos =>
      cases e with
      | nil =>
        have h : (mtT X.N (tkD X.env.scope) t tg && mtI nm cs X.N X.env.scope it tg ir && nSet ir && mtSs nm cs X.N X.env.scope x a) = true := h
        simp only [Bool.and_eq_true] at h
        exact zs_for G.po G.calm ((okA it).i X W tg ir G.toGood h.1.1.2) (sG G.calm G.nd (tkD_ok G.all) t tg h.1.1.1) (hx X W a G h.2) (fun v => folded_of h.1.2 _ v)
      | cons _ _ => cases h
    | _ => cases h
  | .rai c => fun X W st G h => ok_rai G h
  | .raf _ _ _ => osN fun _ _ _ => rfl
  | .tryk b es c i j =>
    have hb := okSs b
    fun X W st G h => ok_tryk hb G h
  | .brk => fun X W st G h => by
    cases st with
    | Break pos => exact zs_brk
    | _ => cases h
  | .cnt => fun X W st G h => by
    cases st with
    | Continue pos => exact zs_cnt
    | _ => cases h
  | .pss => fun X W st G h => by
    cases st with
    | Pass pos => exact zs_pss
    | _ => cases h
  | .doc => fun X W st G h => by
    cases st with
    | Expr a pos =>
      cases a with
      | Constant c j p =>
        cases c with
        | str z => exact zs_doc
        | _ => cases h
      | _ => cases h
    | _ => cases h
  | .nev => fun X W st G h => zs_nev
termination_by structural s => s
theorem okSs : ∀ s : List Sm, SSs Γ nm cs s
  | [] => fun X W st G h => by
    cases st with
    | nil => exact zss_nil
    | cons _ _ => cases h
  | s :: ss =>
    have hs := okS s
    have hss := okSs ss
    fun X W st G h => by
    cases st with
    | nil => cases h
    | cons t ts =>
      have h : (mtS nm cs X.N X.env.scope s t && mtSs nm cs X.N X.env.scope ss ts) = true := h
      rw [Bool.and_eq_true] at h
      exact zss_cons (hs X W t G h.1) (hss X W ts G h.2)
termination_by structural s => s
end
end
end Z

/-! ZsP: defs, the law's end. -/
namespace Z
open PySem PyProof.Rows L2

section
variable {P : Program} {w : World} {K : PySem.W.Frag} {mg : Str → Option Value} {base : Heap}
theorem FnR.imp {k : Nat} {x : Str} {S S' : Spec} (h : FnR P w K mg base k x S) (q : ∀ args h F E, S' args h F E → S args h F E) : FnR P w K mg base k x S' := by
  obtain ⟨f, fd, ps, j, sp, ds, dvs, h1, h2, h3, h4, h5, h6, h7⟩ := h
  refine ⟨f, fd, ps, j, sp, ds, dvs, h1, h2, h3, h4, h5, h6, fun vs H Q E l => h7 vs H Q E ?_⟩
  obtain ⟨ρ, h, xs, F, E, r, ps, kq, kx, s⟩ := l
  exact ⟨ρ, h, xs, F, E, r, ps, kq, kx, q _ _ _ _ s⟩
theorem FnR.mono {k k' : Nat} {x : Str} {S : Spec} (h : FnR P w K mg base k x S) (q : k ≤ k') : FnR P w K mg base k' x S := by
  obtain ⟨f, fd, ps, j, sp, ds, dvs, h1, h2, h3, h4, h5, h6, h7⟩ := h
  exact ⟨f, fd, ps, j, sp, ds, dvs, h1, h2, h3, by omega, h5, h6, h7⟩
theorem start_get (N : List Str) (args : List PV) (vs : List V) (h : args.length = vs.length) (i : Nat) (x : PV) (e : (args.map some ++ List.replicate (N.length - args.length) none)[i]? = some (some x)) : args[i]? = some x := by
  by_cases l : i < args.length
  · rw [List.getElem?_append_left (by rw [List.length_map]; exact l), List.getElem?_map] at e
    cases g : args[i]? with
    | none => rw [g] at e; cases e
    | some y => rw [g] at e; cases e; rfl
  · rw [List.getElem?_append_right (by rw [List.length_map]; omega), List.getElem?_replicate] at e
    split at e <;> cases e
/-- the frame at the entry -/
def enter (n : Nat) (args : List PV) : Env := args.map some ++ List.replicate (n - args.length) none
/-- as many arguments as a def has parameters -/
@[elab_as_elim] theorem us0 {motive : List Value → Prop} {us : List Value} (hl : us.length = 0) (k : motive []) : motive us := match us, hl with | [], _ => k
@[elab_as_elim] theorem us1 {motive : List Value → Prop} {us : List Value} (hl : us.length = 1) (k : ∀ a : Value, motive [a]) : motive us := by
  cases us with
  | nil => cases hl
  | cons x r => exact us0 (motive := fun r => motive (x :: r)) (Nat.succ.inj hl) (k x)
@[elab_as_elim] theorem us2 {motive : List Value → Prop} {us : List Value} (hl : us.length = 2) (k : ∀ a b : Value, motive [a, b]) : motive us := by
  cases us with
  | nil => cases hl
  | cons x r => exact us1 (motive := fun r => motive (x :: r)) (Nat.succ.inj hl) (k x)
@[elab_as_elim] theorem us3 {motive : List Value → Prop} {us : List Value} (hl : us.length = 3) (k : ∀ a b c : Value, motive [a, b, c]) : motive us := by
  cases us with
  | nil => cases hl
  | cons x r => exact us2 (motive := fun r => motive (x :: r)) (Nat.succ.inj hl) (k x)
@[elab_as_elim] theorem us4 {motive : List Value → Prop} {us : List Value} (hl : us.length = 4) (k : ∀ a b c d : Value, motive [a, b, c, d]) : motive us := by
  cases us with
  | nil => cases hl
  | cons x r => exact us3 (motive := fun r => motive (x :: r)) (Nat.succ.inj hl) (k x)
@[elab_as_elim] theorem us5 {motive : List Value → Prop} {us : List Value} (hl : us.length = 5) (k : ∀ a b c d e : Value, motive [a, b, c, d, e]) : motive us := by
  cases us with
  | nil => cases hl
  | cons x r => exact us4 (motive := fun r => motive (x :: r)) (Nat.succ.inj hl) (k x)
@[elab_as_elim] theorem us6 {motive : List Value → Prop} {us : List Value} (hl : us.length = 6) (k : ∀ a b c d e f : Value, motive [a, b, c, d, e, f]) : motive us := by
  cases us with
  | nil => cases hl
  | cons x r => exact us5 (motive := fun r => motive (x :: r)) (Nat.succ.inj hl) (k x)
@[elab_as_elim] theorem us7 {motive : List Value → Prop} {us : List Value} (hl : us.length = 7) (k : ∀ a b c d e f g : Value, motive [a, b, c, d, e, f, g]) : motive us := by
  cases us with
  | nil => cases hl
  | cons x r => exact us6 (motive := fun r => motive (x :: r)) (Nat.succ.inj hl) (k x)
@[elab_as_elim] theorem us8 {motive : List Value → Prop} {us : List Value} (hl : us.length = 8) (k : ∀ a b c d e f g h : Value, motive [a, b, c, d, e, f, g, h]) : motive us := by
  cases us with
  | nil => cases hl
  | cons x r => exact us7 (motive := fun r => motive (x :: r)) (Nat.succ.inj hl) (k x)
@[elab_as_elim] theorem us9 {motive : List Value → Prop} {us : List Value} (hl : us.length = 9) (k : ∀ a b c d e f g h i : Value, motive [a, b, c, d, e, f, g, h, i]) : motive us := by
  cases us with
  | nil => cases hl
  | cons x r => exact us8 (motive := fun r => motive (x :: r)) (Nat.succ.inj hl) (k x)
/-- what a body must do -/
def Meets (Γ : List Spec) (n m : Nat) (ir : List Sm) (S : Spec) : Prop := ∀ args h F E, S args h F E → args.length = m ∧ wSs Γ ir (enter n args) h { nx := fun _ h' => F .non h', rt := F, ex := fun x _ h' => E x h' }
/-- what a def's body does, run in its frame, where its callees are ready -/
theorem body_okX {qual : Str} {st : Stmt} {f : Addr} {N ps : List Str} {k : Nat} {S : Spec} {nm : List Cn} {cs : List (Str × PV)} {Γ : List Spec} {ir : List Sm} {A : Around} {cdv : Value} {outer : List PySem.Env} {s : Shared} {H : Hp} {vs : List V} {Q : VK} {E : XK} (sc : FnScope N ps (defScope st))
    (look : mtSs nm cs N (defScope st) ir (defBody st) = true) (hbl : ∀ n ∈ blts, mg n = none) (hfn : ∀ (i : Nat) (g : Cn), nm[i]? = some g → ∃ T, Γ[i]? = some T ∧ Rdy (cxOf (L2.CX P w) P w K mg base N qual (defScope st) f cdv A outer s H E) g T)
    (hlm : ∀ j, nm[j]? = some .tk → LmReady (cxOf (L2.CX P w) P w K mg base N qual (defScope st) f cdv A outer s H E) nm Γ j)
    (hcs : ∀ p ∈ cs, ∃ (u : Value) (t : V), mg p.1 = some u ∧ RelV t u ∧ ∀ (ρ : List Addr) (H : Hp), Rep K ρ H p.2 t) (meets : Meets Γ N.length ps.length ir S) (hr : Room k (A.deeper (envOfC qual (defScope st) s.heap.objs.size f cdv))) (h : lift K mg S vs H Q E) :
    ∃ t, PSs (cxOf (L2.CX P w) P w K mg base N qual (defScope st) f cdv A outer s H E) (defBody st) t ∧ t { nx := fun _ H' => Q .non H', rt := Q } (L2.start N vs) H := by
  let X := cxOf (L2.CX P w) P w K mg base N qual (defScope st) f cdv A outer s H E
  have tk : Takes X (fun cls d _ H => E cls d H) := takes_of rfl rfl rfl rfl
  have G : Gods X (fun cls d _ H => E cls d H) nm cs Γ :=
    { calm := rfl
      nd := sc.nd
      u2 := by have := hr.un; show (A.deeper _).units + 195 < cLine; omega
      tk := tk
      bl := hbl
      fn := hfn
      lm := hlm
      cn := fun p hp => hcs p hp
      po := passes_of rfl
      all := fun _ => rfl
      kind := sc.kind
      hs := rfl
      hf := rfl
      hex := rfl }
  obtain ⟨ρ, h, xs, F, E', r, rs, kq, kx, sp⟩ := h
  obtain ⟨hl, m⟩ := meets _ _ _ _ sp
  refine ⟨_, okSs ir X _ (defBody st) G look, ?_⟩
  refine ⟨ρ, enter N.length xs, h, { nx := fun _ h' => F .non h', rt := F, ex := fun x _ h' => E' x h' }, ⟨r, ?_, fun i y e => ?_⟩, ⟨fun ρ' σz' h' σ' H' n s w => ?_, fun _ _ _ _ _ _ _ w => False.elim w, fun _ _ _ _ _ _ _ w => False.elim w, fun r' h' ρ' H' v n hr' rp w => ?_, fun x ρ' σz' h' σ' H' cls d n s xr w => ?_⟩, m⟩
  · unfold enter L2.start
    simp [rs.len]
  · have q := start_get N xs vs rs.len i y e
    obtain ⟨v, g, p⟩ := rs.get q
    refine ⟨v, ?_, p⟩
    unfold L2.start
    rw [List.getElem?_append_left (by rw [List.length_map]; exact (List.getElem?_eq_some_iff.mp g).1), List.getElem?_map, g]
    rfl
  · exact kq .non h' ρ' H' .non n s.hr rfl w
  · exact kq r' h' ρ' H' v n hr' rp w
  · exact kx x h' ρ' H' cls d n s.hr xr w
/-- what a def's body does, run in its frame -/
theorem body_ok {qual : Str} {st : Stmt} {f : Addr} {N ps : List Str} {k : Nat} {S : Spec} {nm : List Cn} {cs : List (Str × PV)} {Γ : List Spec} {ir : List Sm} {A : Around} {cdv : Value} {outer : List PySem.Env} {s : Shared} {H : Hp} {vs : List V} {Q : VK} {E : XK} (sc : FnScope N ps (defScope st))
    (look : mtSs nm cs N (defScope st) ir (defBody st) = true) (hbl : ∀ n ∈ blts, mg n = none) (hfn : ∀ (i : Nat) (g : Cn), nm[i]? = some g → ∃ T, Γ[i]? = some T ∧ (((g = .gd ∨ ∃ x, g = .fn x ∧ GnR P w K mg base k x T) ∧ A.guards = some []) ∨ CnR P w K mg base k g T))
    (hcs : ∀ p ∈ cs, ∃ (u : Value) (t : V), mg p.1 = some u ∧ RelV t u ∧ ∀ (ρ : List Addr) (H : Hp), Rep K ρ H p.2 t) (meets : Meets Γ N.length ps.length ir S) (hr : Room k (A.deeper (envOfC qual (defScope st) s.heap.objs.size f cdv))) (h : lift K mg S vs H Q E) :
    ∃ t, PSs (cxOf (L2.CX P w) P w K mg base N qual (defScope st) f cdv A outer s H E) (defBody st) t ∧ t { nx := fun _ H' => Q .non H', rt := Q } (L2.start N vs) H := by
  refine body_okX sc look hbl (fun i g e => ?_) (fun j e => ?_) hcs meets hr h
  · obtain ⟨T, eT, q⟩ := hfn i g e
    refine ⟨T, eT, ?_⟩
    rcases q with ⟨rfl | ⟨x, rfl, f, fd, ps, j, sp, ds, dvs, h1, h2, h3, h4, h5, h6, h7⟩, gd⟩ | q
    · exact gd
    · exact ⟨f, fd, ps, j, sp, ds, dvs, h1, h2, .inr ⟨h3, gd⟩, hr.mono h4, h5, h6, h7⟩
    · exact rdy_of (X := cxOf (L2.CX P w) P w K mg base N qual (defScope st) _ cdv A outer s H E) q hr
  · obtain ⟨T, _, q⟩ := hfn j .tk e
    rcases q with ⟨q | ⟨x, q, _⟩, _⟩ | q
    · cases q
    · cases q
    · exact q.elim
/-- the name of the lambdas in a def -/
def lamQ (qual : Str) : Str := (envOfC qual (default : Scope) 0 0 .none).qual ++ "<lambda>"
/-- calling what was handed over: it answers, or raises, with what the hander wished for it -/
def actS (z : PV) (h0 : Hep) (SF : Spec) (F0 : KQ) : Spec := fun args h G X => args = [z] ∧ h = h0 ∧ (∀ v h', SF [.bl true, v] h' F0 noX → G v h') ∧ ∀ x h', SF [.bl false, keptV x] h' F0 noX → X x h'
/-- a def that calls, once, what it got -/
theorem sa_ok {x a : Str} {st : Stmt} {g : Addr} {N : List Str} {k : Nat} {SF : Spec} {nm : List Cn} {cs : List (Str × PV)} {Γ : List Spec} {ir : List Sm} {oc dV kV doc pm cdv ct : Value} {od an : Option Addr} {osl : Array (Option Value)}
    (lk : K.lookup g = some ⟨oc, od, .func (PySem.W.fnOf x x (defArgs st) (defBody st) (defScope st) dV kV doc pm an cdv ct), osl⟩) (hcd : PySem.W.codeIn K cdv x = true) (hm : mg x = some (.ref g)) (kp : PySem.W.keepIn K (.ref g) = true)
    (b : Binds K (PySem.W.fnOf x x (defArgs st) (defBody st) (defScope st) dV kV doc pm an cdv ct) [a] []) (sc : FnScope N [a] (defScope st)) (hN : N[0]? = some a) (hv : visB (defScope st) a = true) (nd : (a == ("__debug__" : Str)) = false) (nc : (a == ("__classdict__" : Str)) = false)
    (look : mtSs (.ac :: nm) cs N (defScope st) ir (defBody st) = true) (hbl : ∀ n ∈ blts, mg n = none) (hfn : ∀ (i : Nat) (g : Cn), nm[i]? = some g → ∃ T, Γ[i]? = some T ∧ CnR P w K mg base k g T)
    (hcs : ∀ p ∈ cs, ∃ (u : Value) (t : V), mg p.1 = some u ∧ RelV t u ∧ ∀ (ρ : List Addr) (H : Hp), Rep K ρ H p.2 t) (meets : ∀ z h0 F0, Meets (actS z h0 SF F0 :: Γ) N.length 1 ir (fun args h F _ => args = [z] ∧ h = h0 ∧ F = F0)) : SaR P w K mg base k x SF := by
  have hv' : Vis (defScope st) a := by
    unfold visB lkB at hv
    rw [Bool.or_eq_true, Bool.or_eq_true] at hv
    rcases hv with (h | h) | h
    · exact .inl (of_decide_eq_true h)
    · exact .inr (.inl (of_decide_eq_true h))
    · exact .inr (.inr (of_decide_eq_true h))
  refine ⟨g, _, _, _, _, _, _, _, _, _, _, _, _, _, N, a, hm, kp, lk, hcd, b, sc, hN, hv', nd, nc, ?_⟩
  intro A outer s H f c' q xs vs h0 F0 ρ Q tl room hr rp hc kq deed act
  refine body_okX (S := fun args h F _ => args = [PV.fnv f c' q xs vs] ∧ h = h0 ∧ F = F0) (ps := [a]) (Γ := actS (PV.fnv f c' q xs vs) h0 SF F0 :: Γ) sc look hbl (fun i g e => ?_) (fun j e => ?_) hcs (meets _ h0 F0) room
    ⟨ρ, h0, [PV.fnv f c' q xs vs], F0, noX, hr, ⟨.ref f, [], rfl, ⟨rfl, hc, rp⟩, rfl⟩, kq, fun _ _ _ _ _ _ _ _ _ z => z.elim, rfl, rfl, rfl⟩
  · cases i with
    | succ i =>
      obtain ⟨T, eT, q⟩ := hfn i g e
      exact ⟨T, eT, rdy_of (X := cxOf (L2.CX P w) P w K mg base N x (defScope st) _ cdv A outer s H _) q room⟩
    | zero =>
      cases e
      refine ⟨_, rfl, fun pn xe W a' p1 p2 tk hN' => ?_⟩
      have hN' : N[0]? = some a' := hN'
      obtain rfl : a' = a := Option.some.inj (hN'.symm.trans hN)
      refine pe_imp (act W pn xe p1 p2 tk) fun σ H1 Q1 ⟨ρ1, σz, h1, F1, E1, sr, kq1, kx1, y, ey, w1, w2, w3, w4⟩ => ?_
      cases w1
      subst w2
      obtain ⟨v, e1, rv⟩ := sr.sl 0 _ ey
      obtain ⟨rfl, co, rp1⟩ : v = .ref f ∧ H1 c' = some (LamX.CodeO c' q) ∧ Reps K ρ1 H1 xs vs := rv
      exact ⟨e1, co, deed ρ1 H1 _ _ sr.hr rp1 (fun y h' ρ' H' v n r rv1 sf => kq1 y h' ρ' H' v n r rv1 (w3 y h' sf)) fun x h' ρ' H' cls d n r xr sf => kx1 x h' ρ' H' cls d n r xr (w4 x h' sf)⟩
  · cases j with
    | zero => cases e
    | succ j =>
      obtain ⟨T, _, q⟩ := hfn j .tk e
      exact q.elim
theorem SaR.mono {k k' : Nat} {x : Str} {S : Spec} (h : SaR P w K mg base k x S) (q : k ≤ k') : SaR P w K mg base k' x S := by
  obtain ⟨g, pg, bg, sg, dV, kV, doc, pm, cdv, ct, oc, an, od, osl, Ng, a, h1, h2, h3, h4, h5, h6, h7, h8, h9, h10, h11⟩ := h
  exact ⟨g, pg, bg, sg, dV, kV, doc, pm, cdv, ct, oc, an, od, osl, Ng, a, h1, h2, h3, h4, h5, h6, h7, h8, h9, h10, fun A outer s H f c' q' xs vs h0 F0 ρ Q tl room => h11 A outer s H f c' q' xs vs h0 F0 ρ Q tl (room.mono q)⟩
theorem def_ok {x qual : Str} {st : Stmt} {f : Addr} {fd : FuncData} {N ps : List Str} {k : Nat} {S : Spec} {nm : List Cn} {cs : List (Str × PV)} {Γ : List Spec} {ir : List Sm} (F : Fun K x qual st f fd) (sc : FnScope N ps (defScope st))
    (look : mtSs nm cs N (defScope st) ir (defBody st) = true) (hbl : ∀ n ∈ blts, mg n = none) (hfn : ∀ (i : Nat) (g : Cn), nm[i]? = some g → ∃ T, Γ[i]? = some T ∧ CnR P w K mg base k g T)
    (hcs : ∀ p ∈ cs, ∃ (u : Value) (t : V), mg p.1 = some u ∧ RelV t u ∧ ∀ (ρ : List Addr) (H : Hp), Rep K ρ H p.2 t) (meets : Meets Γ N.length ps.length ir S) : FnOk P w K mg base (L2.CX P w) (k + 1) f fd ps (lift K mg S) := by
  refine F.okX sc (fun vs H Q E h => ?_) (fun cdv A outer s H vs Q E hr h => body_ok sc look hbl (fun i g e => (hfn i g e).imp fun T q => ⟨q.1, .inr q.2⟩) hcs meets hr h)
  obtain ⟨ρ, h, xs, F, E, r, ps, kq, kx, s⟩ := h
  rw [← ps.len]
  exact (meets _ _ _ _ s).1
/-- a def without defaults, in place -/
theorem fnr_of {x : Str} {f : Addr} {fd : FuncData} {ps : List Str} {k : Nat} {S : Spec} (hm : mg x = some (.ref f)) (kp : PySem.W.keepIn K (.ref f) = true) (F : FnOk P w K mg base (L2.CX P w) k f fd ps (lift K mg S)) (b : Binds K fd ps []) : FnR P w K mg base k x S :=
  ⟨f, fd, ps, k, _, [], [], hm, kp, F, Nat.le_refl _, b, .nil, fun vs H Q E h => by rw [List.append_nil]; exact h⟩
theorem reps_ints (ρ : List Addr) (H : Hp) : ∀ ns : List Int, Reps K ρ H (ns.map PV.int) (ns.map V.int)
  | [] => rfl
  | n :: ns => ⟨.int n, ns.map V.int, rfl, rfl, reps_ints ρ H ns⟩
/-- the law's own promise, where the law makes lambdas -/
def spLawT (P : Addr) (q : Str) (n : Nat) : Spec := fun args h F _ => ∃ ns : List Int, args = [.ils (ns.map PV.int)] ∧ h = [.tab P q] ∧ ns.length ≤ n ∧ ∀ h', F (.bl true) h'
theorem law_headT {n : Nat} (H : Hp) (T : Addr) (q : Str) (a : Addr) (ns : List Int) (hl : ns.length ≤ n) (ho : Zh.OnlyT H T) (hs : SqL K H a (ns.map V.int)) : lift K mg (spLawT T q n) [.ref a] H (fun v _ => v = .bl true) fun _ _ _ => False := by
  refine ⟨[T], [.tab T q], [.ils (ns.map PV.int)], fun v _ => v = .bl true, noX, ⟨rfl, by simp, fun i o a e1 e2 => ?_⟩, ⟨_, [], rfl, ⟨a, _, rfl, ?_, reps_ints [T] H ns⟩, rfl⟩, ?_, fun _ _ _ _ _ _ _ _ _ z => z.elim, ns, rfl, rfl, hl, fun h' => rfl⟩
  · cases i with
    | zero =>
      cases e1
      cases e2
      exact ⟨rfl, LamX.TabS.nil ho.tab⟩
    | succ i => cases e1
  · rcases hs with (h | ⟨o, h⟩) | h
    · by_cases z : a = T
      · subst z
        rw [ho.tab] at h
        cases h
      · rcases ho.rest a z with q | ⟨o, xs, q⟩
        · rw [h] at q; cases q
        · rw [h] at q; cases q
    · exact .inl ⟨o, h⟩
    · exact .inr (.inr h)
  · intro r h' ρ' H' v _ _ rp e
    subst e
    exact rp
/-- the law's own def, where it holds lambdas in lists -/
theorem def_topC {x qual p : Str} {st : Stmt} {f c T : Addr} {N : List Str} {k : Nat} {S : Spec} {nm : List Cn} {cs : List (Str × PV)} {Γf : List (Str × Addr) → List Spec} {ir : List Sm} {oc dV kV doc pm ct : Value} {od an : Option Addr} {osl : Array (Option Value)}
    (lk : K.lookup f = some ⟨oc, od, .func (PySem.W.fnOf x qual (defArgs st) (defBody st) (defScope st) dV kV doc pm an (.ref c) ct), osl⟩) (hcd : PySem.W.codeIn K (.ref c) qual = true) (TB : LamX.TabB base mg c T) (sm : ∃ (o : Obj) (es : Array DictEntry) (ep : Nat), base.get? sysModules = some o ∧ o.data = .dict es ep)
    (sc : FnScope N [p] (defScope st)) (room : Room (k + 4) callerA) (look : mtSs nm cs N (defScope st) ir (defBody st) = true) (hbl : ∀ n ∈ blts, mg n = none) (meets : ∀ cl, Meets (Γf cl) N.length 1 ir S)
    (hfn : ∀ (cl : List (Str × Addr)) (i : Nat) (g : Cn), nm[i]? = some g → ∃ T', (Γf cl)[i]? = some T' ∧ ((g = .tk ∧ T' = tokS T (lamQ qual)) ∨ (g = .ce ∧ T' = cellS (lamQ qual) cl) ∨ (g = .gd ∨ g = .gs) ∨ CnR P w K mg base k g T'))
    (hcs : ∀ p ∈ cs, ∃ (u : Value) (t : V), mg p.1 = some u ∧ RelV t u ∧ ∀ (ρ : List Addr) (H : Hp), Rep K ρ H p.2 t) :
    Zh.TopOk P w K mg base (L2.CX P w) f (PySem.W.fnOf x qual (defArgs st) (defBody st) (defScope st) dV kV doc pm an (.ref c) ct) p (lift K mg S) := by
  refine Zh.top_of lk hcd sc (room.mono (by omega)) fun s H v Q E want => ?_
  have rm : Room (k + 3) (callerA.deeper (envOfC qual (defScope st) s.heap.objs.size f (.ref c))) := room.deeper _
  obtain ⟨cl, ec⟩ : ∃ cl, cl = (cxOf (L2.CX P w) P w K mg base N qual (defScope st) f (.ref c) callerA [] s H E).env.cells := ⟨_, rfl⟩
  refine body_okX (ps := [p]) (Γ := Γf cl) sc look hbl (fun i g e => ?_) (fun j e => ?_) hcs (meets cl) rm want
  · obtain ⟨T', eT, q⟩ := hfn cl i g e
    refine ⟨T', eT, ?_⟩
    rcases q with ⟨rfl, _⟩ | ⟨rfl, e2⟩ | (rfl | rfl) | q
    · exact trivial
    · subst e2
      subst ec
      rfl
    · exact rfl
    · exact ⟨rfl, sm⟩
    · exact rdy_of (X := cxOf (L2.CX P w) P w K mg base N qual (defScope st) f (.ref c) callerA [] s H E) q (rm.mono (by omega))
  · obtain ⟨T', eT, q⟩ := hfn cl j .tk e
    have eT2 : T' = tokS T (lamQ qual) := by
      rcases q with ⟨_, q⟩ | ⟨q, _⟩ | (q | q) | q
      · exact q
      · cases q
      · cases q
      · cases q
      · exact q.elim
    subst eT2
    refine ⟨c, T, k, 0, eT, TB, rfl, rm, fun i g e => ?_⟩
    obtain ⟨T', eT', q⟩ := hfn cl i g e
    refine ⟨T', eT', ?_⟩
    rcases q with ⟨rfl, _⟩ | ⟨rfl, _⟩ | (rfl | rfl) | q
    · exact .inl (.inl rfl)
    · exact .inl (.inr (.inr (.inr (.inr rfl))))
    · exact .inl (.inr (.inl rfl))
    · exact .inl (.inr (.inr (.inr (.inl rfl))))
    · exact .inr q
theorem no_exc {P : Program} {w : World} {H : Hp} {s s1 : Shared} {e : Value} (z : L2.CX P w [] H s (fun _ _ _ => False) e s1) : False := by
  obtain ⟨_, _, _, _, _, _, _, _, _, _, _, _, z⟩ := z
  exact z
end
end Z

/-! ZsR: an error class's own __init__. -/
namespace Z
open PySem PyProof.Rows L2
/-- what stands for a class among the callees -/
def noS : Spec := fun _ _ _ _ => False
/-- what the clause and isinstance ask of two classes of one's own -/
theorem xs_own {K : PySem.W.Frag} {C D : Addr} {b : Bool} (h1 : PySem.W.subIn K (.ref D) (.type "BaseException") = some true) (hd : PySem.W.hasDictIn K D = true) (ht : PySem.W.typeIn K (.ref D) = some (.type "type")) (h4 : PySem.W.subIn K (.ref C) (.ref D) = some b) (hne : b = false → C ≠ D) :
    PySem.W.exmOne K (.ref C) (.ref D) = some b ∧ PySem.W.kitOne K (.ref C) (.ref D) = some b := by
  refine ⟨PySem.W.exm_ref h1 hd ht h4, ?_⟩
  unfold PySem.W.kitOne
  by_cases e : C = D
  · subst e
    rw [if_pos (beq_self_eq_true _)]
    cases b with
    | true => rfl
    | false => exact absurd rfl (hne rfl)
  · rw [if_neg (by rw [beq_iff_eq]; intro z; exact e (Value.ref.inj z))]
    obtain ⟨cd, hc, _⟩ := PySem.W.any_some hd
    unfold PySem.W.kitCls
    dsimp only
    rw [if_pos (by rw [hc, ht] <;> rfl)]
    exact h4
theorem xs_blt {K : PySem.W.Frag} {C : Addr} {b : Bool} (h4 : PySem.W.subIn K (.ref C) (.type "ValueError") = some b) (h1 : PySem.W.subIn K (.type "ValueError") (.type "BaseException") = some true) : PySem.W.exmOne K (.ref C) (.type "ValueError") = some b ∧ PySem.W.kitOne K (.ref C) (.type "ValueError") = some b := by
  have m : PySem.W.kitMeta "ValueError" = true := by decide +kernel
  have k : PySem.W.kitCls K (.ref C) (.type "ValueError") = some b := by
    unfold PySem.W.kitCls
    dsimp only
    rw [if_pos m]
    exact h4
  constructor
  · unfold PySem.W.exmOne
    rw [if_pos (by rw [h1] <;> rfl)]
    exact k
  · unfold PySem.W.kitOne
    rw [if_neg (by rw [beq_iff_eq]; intro z; cases z)]
    exact k
section
variable {P : Program} {w : World} {K : PySem.W.Frag} {mg : Str → Option Value} {base : Heap}
end
end Z

/-! ZsQ: plain lemmas for the proofs over Z's conditions. -/
namespace Z
open PySem

/-! ### heaps that grow -/
def Ext (h h' : Hep) : Prop := ∀ (q : Nat) (o : Ob), h[q]? = some o → h'[q]? = some o
def ExtB (d : Nat) (h h' : Hep) : Prop := h.length ≤ h'.length ∧ ∀ (q : Nat) (o : Ob), q ≠ d → h[q]? = some o → h'[q]? = some o
theorem Ext.rfl' {h : Hep} : Ext h h := fun _ _ e => e
theorem Ext.trans {h h1 h2 : Hep} (a : Ext h h1) (b : Ext h1 h2) : Ext h h2 := fun q o e => b q o (a q o e)
theorem app_get {h j : Hep} {q : Nat} {o : Ob} (e : h[q]? = some o) : (h ++ j)[q]? = some o := by
  rw [List.getElem?_append_left (List.getElem?_eq_some_iff.mp e).1]; exact e
theorem Ext.app {h j : Hep} : Ext h (h ++ j) := fun _ _ e => app_get e
theorem Ext.len {h h' : Hep} (a : Ext h h') : h.length ≤ h'.length := by
  apply Nat.le_of_not_lt
  intro l
  have hl : h'.length < h.length := l
  have e := a h'.length (h[h'.length]) (List.getElem?_eq_getElem hl)
  rw [List.getElem?_eq_none (Nat.le_refl _)] at e
  cases e
theorem lt_of_get {h : Hep} {q : Nat} {o : Ob} (e : h[q]? = some o) : q < h.length := (List.getElem?_eq_some_iff.mp e).1
theorem new_get {h : Hep} {o : Ob} : (h ++ [o])[h.length]? = some o := by simp
theorem set_get {h : Hep} {q : Nat} {o o' : Ob} (e : h[q]? = some o) : (h.set q o')[q]? = some o' := List.getElem?_set_self (lt_of_get e)
theorem ExtB.set {h : Hep} {d : Nat} {o : Ob} : ExtB d h (h.set d o) := ⟨by simp, fun q o' n e => by rw [List.getElem?_set_ne (Ne.symm n)]; exact e⟩
theorem Ext.b {h h' : Hep} {d : Nat} (a : Ext h h') : ExtB d h h' := ⟨a.len, fun q o _ e => a q o e⟩
theorem ExtB.trans {h h1 h2 : Hep} {d : Nat} (a : ExtB d h h1) (b : ExtB d h1 h2) : ExtB d h h2 := ⟨Nat.le_trans a.1 b.1, fun q o n e => b.2 q o n (a.2 q o n e)⟩
/-- what was there ahead of a fresh thing -/
theorem ExtB.ext {h h1 h2 : Hep} {d : Nat} (a : Ext h h1) (b : ExtB d h1 h2) (n : h.length ≤ d) : Ext h h2 := fun q o e => b.2 q o (by have := lt_of_get e; omega) (a q o e)

theorem wSs_nil {Γ : List Spec} {σ : Env} {h : Hep} {D : Dz} : wSs Γ [] σ h D = D.nx σ h := rfl
theorem wSs_step {Γ : List Spec} {s : Sm} {r : List Sm} {σ : Env} {h : Hep} {D : Dz} (w : wS Γ s σ h { D with nx := fun σ' h' => wSs Γ r σ' h' D }) : wSs Γ (s :: r) σ h D := w
/-! ### loops -/
theorem wFor_ind {g : Grd} {t : Tg} {b : Env → Hep → Dz → Prop} {D : Dz} (I : List PV → Env → Hep → Prop) :
    ∀ (items : List PV) (σ : Env) (h : Hep), I items σ h →
    (∀ x r σ h, I (x :: r) σ h → grdOk h g ∧ ∃ σ', tgt t x σ = some σ' ∧ ∀ K : Env → Hep → Prop, (∀ σ2 h2, I r σ2 h2 → K σ2 h2) → b σ' h { D with nx := K, ct := K, bk := D.nx }) →
    (∀ σ h, I [] σ h → grdOk h g ∧ D.nx σ h) → wFor g t b items σ h D
  | [], σ, h, i, _, e => e σ h i
  | x :: r, σ, h, i, s, e => by
    obtain ⟨gk, σ', et, k⟩ := s x r σ h i
    refine ⟨gk, ?_⟩
    rw [et]
    exact k _ fun σ2 h2 i2 => wFor_ind I r σ2 h2 i2 s e
theorem wComp_ind {g : Grd} {t : Tg} {c : Env → Hep → KB → Prop} {e : Env → Hep → KQ → Prop} {σ : Env} {F : List PV → Hep → Prop} (I : List PV → List PV → Hep → Prop) :
    ∀ (items acc : List PV) (h : Hep), I items acc h →
    (∀ x r acc h, I (x :: r) acc h → grdOk h g ∧ ∃ σ', tgt t x σ = some σ' ∧ ∀ K : List PV → Hep → Prop, (∀ acc2 h2, I r acc2 h2 → K acc2 h2) → c σ' h fun b h1 => if b = true then e σ' h1 fun y h2 => acc.length < big ∧ K (acc ++ [y]) h2 else K acc h1) →
    (∀ acc h, I [] acc h → grdOk h g ∧ F acc h) → wComp g t c e σ items acc h F
  | [], acc, h, i, _, z => z acc h i
  | x :: r, acc, h, i, s, z => by
    obtain ⟨gk, σ', et, k⟩ := s x r acc h i
    refine ⟨gk, ?_⟩
    rw [et]
    exact k (fun acc2 h2 => wComp g t c e σ r acc2 h2 F) fun acc2 h2 i2 => wComp_ind I r acc2 h2 i2 s z

/-! ### data -/
theorem eqW_of {h : Hep} {x y : PV} {d e : PyData} {K : Bool → Prop} (e1 : dat h 60 x = some d) (e2 : dat h 60 y = some e) (c1 : d.canLay0 = true) (c2 : e.canLay0 = true) (k : K (PyData.eqv d e)) : eqW h x y K :=
  .inl ⟨d, e, e1, e2, dat_shaped (by decide) e1 c1, dat_shaped (by decide) e2 c2, k⟩
theorem eqW_same {h : Hep} {x y : PV} {d : PyData} {K : Bool → Prop} (e1 : dat h 60 x = some d) (e2 : dat h 60 y = some d) (c : d.canLay0 = true) (k : K true) : eqW h x y K :=
  eqW_of e1 e2 c c (by rw [SeqAt.eqv_refl d c]; exact k)
theorem lay_ints : ∀ ns : List Int, PyData.canLayAll0 (ns.map PyData.int) = true
  | [] => rfl
  | n :: ns => lay_ints ns
theorem eqW_int {h : Hep} {i j : Int} {K : Bool → Prop} : eqW h (.int i) (.int j) K ↔ K (i == j) := by
  refine ⟨fun q => ?_, fun k => eqW_of rfl rfl rfl rfl k⟩
  rcases q with ⟨d, e, h1, h2, _, _, k⟩ | ⟨_, _, h1, _⟩ | ⟨_, o | ⟨_, _, _, _, _, h1, _⟩, _⟩
  · cases h1; cases h2; exact k
  · cases h1
  · rcases o with ⟨_, _, h1, _⟩ | ⟨_, _, h1, _⟩ | ⟨_, h1, _⟩ | ⟨_, _, _, h1, _⟩ | ⟨_, _, h1, _⟩ <;> cases h1
  · cases h1
theorem datAll_ints {f : PV → Option PyData} (hf : ∀ i, f (.int i) = some (.int i)) : ∀ ns : List Int, datAll f (ns.map PV.int) = some (ns.map PyData.int)
  | [] => rfl
  | n :: ns => by rw [List.map_cons, datAll, hf, datAll_ints hf ns]; rfl
theorem dat_int (h : Hep) (n : Nat) (i : Int) : dat h n (.int i) = some (.int i) := by cases n <;> rfl
theorem dat_lst {h : Hep} {n r : Nat} {xs : List PV} {ds : List PyData} (e : h[r]? = some (.lst xs)) (k : datAll (dat h n) xs = some ds) : dat h (n + 1) (.ref r) = some (.list ds) := by
  rw [dat, e]
  show (datAll (dat h n) xs).map PyData.list = _
  rw [k]; rfl
theorem dat_ints {h : Hep} {n r : Nat} {ns : List Int} (e : h[r]? = some (.lst (ns.map PV.int))) : dat h (n + 1) (.ref r) = some (.list (ns.map PyData.int)) := dat_lst e (datAll_ints (dat_int h n) ns)
/-- a list of pairs of ints -/
def pairV (p : Int × Int) : PV := .tup [.int p.1, .int p.2]
theorem datAll_pairs {h : Hep} {n : Nat} : ∀ ps : List (Int × Int), datAll (dat h (n + 1)) (ps.map pairV) = some (ps.map fun p => PyData.tuple [.int p.1, .int p.2])
  | [] => rfl
  | p :: ps => by
    rw [List.map_cons, datAll, datAll_pairs ps]
    show (match (datAll (dat h n) [.int p.1, .int p.2]).map PyData.tuple, _ with | some d, some ds => some (d :: ds) | _, _ => none) = _
    rw [show datAll (dat h n) [.int p.1, .int p.2] = some [.int p.1, .int p.2] from datAll_ints (dat_int h n) [p.1, p.2]]
    rfl
theorem eqv_ints : ∀ ns ms : List Int, PyData.eqvAll (ns.map PyData.int) (ms.map PyData.int) = (ns == ms)
  | [], [] => rfl
  | [], _ :: _ => rfl
  | _ :: _, [] => rfl
  | n :: ns, m :: ms => by
    show (PyData.eqv (.int n) (.int m) && PyData.eqvAll (ns.map PyData.int) (ms.map PyData.int)) = _
    rw [eqv_ints ns ms]
    show ((n == m) && (ns == ms)) = _
    rfl
theorem eqW_iempty {h : Hep} {q : Nat} {ns : List Int} {K : Bool → Prop} (e2 : h[q]? = some (.lst [])) (k : K ns.isEmpty) : eqW h (.ils (ns.map PV.int)) (.ref q) K := by
  refine eqW_of (d := .list (ns.map PyData.int)) ?_ (dat_ints (ns := []) e2) (lay_ints ns) rfl ?_
  · show (datAll (dat h 59) (ns.map PV.int)).map PyData.list = _
    rw [datAll_ints (dat_int h 59)]; rfl
  · show K (PyData.eqvAll (ns.map PyData.int) (([] : List Int).map PyData.int))
    rw [eqv_ints]
    cases ns <;> exact k

/-! ### lists of ints -/
theorem intsOf_map : ∀ ns : List Int, intsOf (ns.map PV.int) = some ns
  | [] => rfl
  | n :: ns => by rw [List.map_cons, intsOf, intsOf_map ns]; rfl
theorem ixN_nat {n i : Nat} (h : i < n) : ixN n (i : Int) = some i := by
  show (if (0 : Int) ≤ (i : Int) then (if (i : Int) < (n : Int) then some (i : Int).toNat else none) else _) = some i
  rw [if_pos (by omega), if_pos (by omega), Int.toNat_natCast]
theorem ixN_int {n : Nat} {i : Int} (h : 0 ≤ i) (h2 : i < n) : ixN n i = some i.toNat := by
  show (if (0 : Int) ≤ i then (if i < (n : Int) then some i.toNat else none) else _) = some i.toNat
  rw [if_pos h, if_pos h2]
/-- a def as it stands -/
def inl (Γ : List Spec) (n m : Nat) (ir : List Sm) : Spec := fun args h F E => args.length = m ∧ wSs Γ ir (enter n args) h { nx := fun _ h' => F .non h', rt := F, ex := fun x _ h' => E x h' }
theorem mt_inl {Γ : List Spec} {n m : Nat} {ir : List Sm} : Meets Γ n m ir (inl Γ n m ir) := fun _ _ _ _ h => h
/-- a comprehension over what each item gives -/
theorem wComp_map {g : Grd} {t : Tg} {e : Env → Hep → KQ → Prop} {σ : Env} {F : List PV → Hep → Prop} {h : Hep} (f : PV → PV) (items : List PV) (hg : ∀ h', Ext h h' → grdOk h' g)
    (he : ∀ x ∈ items, ∀ h', Ext h h' → ∃ σ', tgt t x σ = some σ' ∧ ∀ G : KQ, (∀ h2, Ext h h2 → G (f x) h2) → e σ' h' G) (hl : items.length ≤ big) (fin : ∀ h', Ext h h' → F (items.map f) h') : wComp g t (fun _ h' G => G true h') e σ items [] h F := by
  refine wComp_ind (fun rest acc h' => Ext h h' ∧ ∃ pre, items = pre ++ rest ∧ acc = pre.map f) items [] h ⟨.rfl', [], rfl, rfl⟩ ?_ ?_
  · rintro x r acc h' ⟨ex, pre, hp, rfl⟩
    obtain ⟨σ', e1, e2⟩ := he x (by rw [hp]; simp) h' ex
    refine ⟨hg h' ex, σ', e1, fun K hK => ?_⟩
    show if true = true then _ else _
    rw [if_pos rfl]
    refine e2 _ fun h2 ex2 => ⟨?_, hK _ _ ⟨ex2, pre ++ [x], by rw [hp]; simp, by simp⟩⟩
    have := congrArg List.length hp
    simp at this
    rw [List.length_map]
    omega
  · rintro acc h' ⟨ex, pre, hp, rfl⟩
    rw [List.append_nil] at hp
    exact ⟨hg h' ex, by rw [← hp]; exact fin h' ex⟩
theorem boolsOf_const : ∀ xs : List PV, boolsOf (xs.map fun _ => PV.bl true) = some (xs.map fun _ => true)
  | [] => rfl
  | x :: xs => by rw [List.map_cons, boolsOf, boolsOf_const xs]; rfl
theorem all_const : ∀ xs : List PV, (xs.map fun _ => true).all id = true
  | [] => rfl
  | x :: xs => all_const xs
theorem ExtB.set' {h h' : Hep} {d r : Nat} {o : Ob} (a : ExtB d h h') (l : h.length ≤ r) : ExtB d h (h'.set r o) := ⟨by rw [List.length_set]; exact a.1, fun q o' n e => by
  have := lt_of_get e
  rw [List.getElem?_set_ne (by omega)]
  exact a.2 q o' n e⟩
theorem ExtB.app {h h' j : Hep} {d : Nat} (a : ExtB d h h') : ExtB d h (h' ++ j) := a.trans Ext.app.b
theorem Ext.set' {h h' : Hep} {r : Nat} {o : Ob} (a : Ext h h') (l : h.length ≤ r) : Ext h (h'.set r o) := fun q o' e => by
  have := lt_of_get e
  rw [List.getElem?_set_ne (by omega)]
  exact a q o' e
/-! ### dicts by ints -/
def kvI (l : List (Int × PV)) : List (Ky × PV) := l.map fun p => (Ky.one (.inl p.1), p.2)
theorem dget_kvI (n : Int) : ∀ l : List (Int × PV), dget (.one (.inl n)) (kvI l) = l.lookup n
  | [] => rfl
  | (m, v) :: l => by
    show (if Ky.one (.inl m) = Ky.one (.inl n) then some v else dget (.one (.inl n)) (kvI l)) = _
    rw [List.lookup_cons]
    by_cases e : m = n
    · subst e
      rw [if_pos rfl, beq_self_eq_true]
    · rw [if_neg (fun z => e (by injection z with z; injection z)), show (n == m) = false from by simpa using (Ne.symm e), dget_kvI n l]
theorem kind_kvI (n : Int) (l : List (Int × PV)) : kindOk (.one (.inl n)) (kvI l) = true := by cases l <;> rfl
theorem lookup_none {n : Int} : ∀ {l : List (Int × PV)}, n ∉ l.map (·.1) → l.lookup n = none
  | [], _ => rfl
  | (m, v) :: l, h => by
    rw [List.lookup_cons, show (n == m) = false from by simpa using (fun e => h (by simp [e])), lookup_none (l := l) fun z => h (by simp at z ⊢; exact .inr z)]
theorem dput_new {n : Int} {l : List (Int × PV)} {v : PV} (h : n ∉ l.map (·.1)) : dput (.one (.inl n)) v (kvI l) = kvI (l ++ [(n, v)]) := by
  unfold dput
  rw [dget_kvI, lookup_none h]
  simp [kvI]
theorem len_kvI (l : List (Int × PV)) : (kvI l).length = l.length := by simp [kvI]
/-! ### slices -/
theorem cutL_drop {α : Type} (xs : List α) (i : Nat) (h : i ≤ xs.length) : cutL xs (some (i : Int)) none = xs.drop i := by
  unfold cutL
  have e : sIx xs.length 0 (some (i : Int)) = i := by
    rw [show sIx xs.length 0 (some (i : Int)) = min i xs.length from HT.sIx_nat _ _ _, Nat.min_eq_left h]
  have e2 : sIx xs.length xs.length none = xs.length := rfl
  rw [e, e2]
  exact List.take_of_length_le (by rw [List.length_drop]; omega)
theorem enumL_drop {xs : List PV} {i : Nat} (h : i < xs.length) : enumL i (xs.drop i) = .tup [.int i, xs[i]] :: enumL (i + 1) (xs.drop (i + 1)) := by
  rw [List.drop_eq_getElem_cons h]
  rfl
/-! ### more of comprehensions and of «in» -/
theorem wComp_filter {g : Grd} {t : Tg} {c : Env → Hep → KB → Prop} {e : Env → Hep → KQ → Prop} {σ : Env} {F : List PV → Hep → Prop} {h : Hep} (p : PV → Bool) (f : PV → PV) (items : List PV) (hg : ∀ h', Ext h h' → grdOk h' g)
    (he : ∀ x ∈ items, ∀ h', Ext h h' → ∃ σ', tgt t x σ = some σ' ∧ ∀ G : KB, (∀ h2, Ext h h2 → G (p x) h2) → c σ' h' G)
    (hf : ∀ x ∈ items, ∀ h', Ext h h' → ∀ σ', tgt t x σ = some σ' → p x = true → ∀ G : KQ, (∀ h2, Ext h h2 → G (f x) h2) → e σ' h' G) (hl : items.length ≤ big) (fin : ∀ h', Ext h h' → F ((items.filter p).map f) h') : wComp g t c e σ items [] h F := by
  refine wComp_ind (fun rest acc h' => Ext h h' ∧ ∃ pre, items = pre ++ rest ∧ acc = (pre.filter p).map f) items [] h ⟨.rfl', [], rfl, rfl⟩ ?_ ?_
  · rintro x r acc h' ⟨ex, pre, hp, rfl⟩
    have mx : x ∈ items := by rw [hp]; simp
    obtain ⟨σ', e1, e2⟩ := he x mx h' ex
    refine ⟨hg h' ex, σ', e1, fun K hK => e2 _ fun h2 ex2 => ?_⟩
    have hlen : ((pre.filter p).map f).length < big := by
      have := congrArg List.length hp
      have q := List.length_filter_le p pre
      simp at this
      rw [List.length_map]
      omega
    cases hpx : p x with
    | true =>
      rw [if_pos rfl]
      exact hf x mx h2 ex2 σ' e1 hpx _ fun h3 ex3 => ⟨hlen, hK _ _ ⟨ex3, pre ++ [x], by rw [hp]; simp, by rw [List.filter_append]; simp [hpx]⟩⟩
    | false =>
      rw [if_neg (by decide)]
      exact hK _ _ ⟨ex2, pre ++ [x], by rw [hp]; simp, by rw [List.filter_append]; simp [hpx]⟩
  · rintro acc h' ⟨ex, pre, hp, rfl⟩
    rw [List.append_nil] at hp
    exact ⟨hg h' ex, by rw [← hp]; exact fin h' ex⟩
theorem any_ints (i : Int) : ∀ l : List Int, (l.map PyData.int).any (fun e => PyData.eqv e (.int i)) = decide (i ∈ l)
  | [] => by simp
  | x :: l => by
    rw [List.map_cons, List.any_cons, any_ints i l]
    show ((x == i) || decide (i ∈ l)) = decide (i ∈ x :: l)
    by_cases e : x = i
    · subst e; simp
    · simp [e, Ne.symm e]
theorem inL_ints {h : Hep} {i : Int} {l : List Int} {K : Bool → Prop} (k : K (decide (i ∈ l))) : inL h (.int i) (l.map PV.int) K :=
  ⟨.int i, l.map .int, dat_int h 59 i, rfl, datAll_ints (dat_int h 59) l, lay_ints l, by rw [any_ints]; exact k⟩
/-! ### sorted -/
theorem sortZ_map {α : Type} (f : α → PV) (g : α → PyData) (L : List α) : sortZ (L.map f) (L.map g) = (L.mergeSort (PySem.W.dataLe false g)).map f := by
  unfold sortZ
  have e : (L.map f).zip (L.map g) = L.map fun x => (f x, g x) := by
    induction L with
    | nil => rfl
    | cons x L ih => rw [List.map_cons, List.map_cons, List.zip_cons_cons, ih]; rfl
  rw [e]
  have e2 : (L.map fun x => (f x, g x)).mergeSort (PySem.W.dataLe false fun p => p.2) = (L.mergeSort (PySem.W.dataLe false g)).map fun x => (f x, g x) := by
    rw [← PySem.W.sort_maps (r := PySem.W.dataLe false g) (s := PySem.W.dataLe false fun (p : PV × PyData) => p.2) (fun x => (f x, g x))]
    intro a _ b _
    rw [PySem.W.dataLe_eq, PySem.W.dataLe_eq]
  rw [e2, List.map_map]
  rfl
def srtI (L : List Int) : List Int := L.mergeSort fun a b => decide (a ≤ b)
def leP (p q : Int × Int) : Bool := decide (p.1 < q.1 ∨ (p.1 = q.1 ∧ p.2 ≤ q.2))
def srtP (L : List (Int × Int)) : List (Int × Int) := L.mergeSort leP
def pairD (p : Int × Int) : PyData := .tuple [.int p.1, .int p.2]
theorem srtI_perm (L : List Int) : (srtI L).Perm L := List.mergeSort_perm _ _
theorem srtP_perm (L : List (Int × Int)) : (srtP L).Perm L := List.mergeSort_perm _ _
theorem srtI_sorted (L : List Int) : (srtI L).Pairwise (· ≤ ·) := by
  have := List.pairwise_mergeSort (le := fun (a b : Int) => decide (a ≤ b)) (fun a b c h1 h2 => by simp at *; omega) (fun a b => by simp; omega) L
  exact this.imp fun h => by simpa using h
theorem srtP_sorted (L : List (Int × Int)) : (srtP L).Pairwise (fun p q => p.1 < q.1 ∨ (p.1 = q.1 ∧ p.2 ≤ q.2)) := by
  have := List.pairwise_mergeSort (le := leP) (fun a b c h1 h2 => by unfold leP at *; simp at *; omega) (fun a b => by unfold leP; simp; omega) L
  exact this.imp fun h => by unfold leP at h; simpa using h
theorem sortZ_ints (L : List Int) : sortZ (L.map PV.int) (L.map PyData.int) = (srtI L).map PV.int := by
  rw [sortZ_map, PySem.W.dataLe_int (fun b => b)]
  rfl
theorem sortZ_pairs (L : List (Int × Int)) : sortZ (L.map pairV) (L.map pairD) = (srtP L).map pairV := by
  rw [sortZ_map]
  have e : PySem.W.dataLe false pairD = leP := PySem.W.dataLe_ii (fun (p : Int × Int) => p.1) (fun p => p.2)
  rw [e]
  rfl
theorem sorted_ints {h : Hep} {L : List Int} {G : List PyData → Prop} (k : G (L.map PyData.int)) : ∃ ds, datAll (dat h 59) (L.map PV.int) = some ds ∧ PySem.W.AllAlike ds ∧ PySem.W.Sortable ds ∧ G ds :=
  ⟨L.map PyData.int, datAll_ints (dat_int h 59) L, PySem.W.AllAlike.of fun _ _ => rfl, PySem.W.Sortable.others fun b => ⟨(fun e => by cases e), (fun xs e => by cases e)⟩, k⟩
theorem sorted_pairs {h : Hep} {L : List (Int × Int)} {G : List PyData → Prop} (k : G (L.map pairD)) : ∃ ds, datAll (dat h 59) (L.map pairV) = some ds ∧ PySem.W.AllAlike ds ∧ PySem.W.Sortable ds ∧ G ds :=
  ⟨L.map pairD, datAll_pairs (n := 58) L, PySem.W.AllAlike.of fun a b => by simp [pairD, PySem.W.alike, PySem.W.alikeAll], PySem.W.Sortable.tuples fun b => ⟨_, _, rfl⟩, k⟩
end Z

local macro_rules
  | `(tactic| simp_arith []) => `(tactic| simp (maxSteps := 2000000) only [Z.inW, Z.dsetW, Z.tixW, Z.isWt, Z.wComp, Z.wFor, Z.wSs_nil, Z.wS, Z.wE, Z.wEs, Z.wO, Z.wC, Z.wI, Z.binW, Z.binI, Z.cmpW, Z.truW, Z.itemW, Z.sliceW, Z.revW, Z.stpW, Z.xtW, Z.storeW, Z.biW_1, Z.biW_2, Z.biW_3, Z.biW_4, Z.biW_5, Z.biW_6, Z.biW_7, Z.biW_8, Z.biW_9, Z.biW_10, Z.biW_11, Z.biW_12, Z.biW_13, Z.biW_14, Z.biW_15, Z.biW_16, Z.biW_17, Z.biW_18, Z.biW_19, Z.biW_20, Z.biW_21, Z.biW_22, Z.biW_23, Z.biW_24, Z.biW_25, Z.biW_26, Z.biW_27, Z.biW_28, Z.biW_29, Z.biW_30, Z.biW_31, Z.biW_32, Z.biW_33, Z.biW_34, Z.biW_35, Z.biW_36, Z.biW_37, Z.biW_38, Z.biW_39, Z.biW_40, Z.biW_41, Z.biW_42, Z.biW_43, Z.biW_44, Z.isT, Z.isxW, Z.isxsW, Z.miW_1, Z.miW_2, Z.miW_3, Z.miW_4, Z.miW_5, Z.miW_6, Z.miW_7, Z.miW_8, Z.miW_9, Z.miW_10, Z.miW_11, Z.isL, Z.getL, Z.getD, Z.listW, Z.seqW, Z.walkW, Z.fldW, Z.insW, Z.stfW, Z.getO, Z.putZ, Z.pairW, Z.dgetW, Z.isD, Z.smW, Z.isS, Z.tgt, Z.tgts, Z.wipeZ, Z.grdOk, Z.eqW_int, Z.enter, List.map_cons, List.map_nil, List.length_cons, List.length_nil, List.replicate_succ, List.replicate_zero, Nat.add_sub_cancel, Nat.sub_self, Nat.zero_add, List.cons_append, List.nil_append, List.getElem?_cons_zero, List.getElem?_cons_succ, List.set_cons_zero, List.set_cons_succ, if_true, if_false, ite_true, ite_false, Bool.not_true, Bool.not_false, Bool.true_eq_false, Bool.false_eq_true, true_and, and_true, reduceCtorEq, Option.some.injEq, false_and, and_false, false_or, or_false, true_or, or_true, Nat.reduceAdd, Nat.reduceSub, List.isEmpty_cons, List.isEmpty_nil, beq_self_eq_true, decide_true, decide_false, Bool.false_or, Bool.true_or, Bool.or_false, Bool.or_true, Bool.and_true, Bool.and_false, Bool.true_and, Bool.false_and, reduceIte, dite_true, dite_false, beq_iff_eq, decide_eq_true_eq, bne_iff_ne, Z.ixN_int, Int.reduceLE, Int.reduceLT, Int.reduceNeg, Int.reduceToNat, Int.cast_ofNat_Int, exists_and_left, exists_eq_left', exists_eq_left, exists_eq', not_true_eq_false, not_false_eq_true, Int.toNat_natCast, Nat.reduceLT, Nat.reduceLeDiff, ne_eq, Z.big, Nat.zero_le, List.length_map, List.getElem?_map, Option.map_some, Option.map_none, Int.reducePow, Nat.reducePow])
local macro_rules
  | `(tactic| simp_arith [$xs,*]) => `(tactic| simp (maxSteps := 2000000) only [Z.inW, Z.dsetW, Z.tixW, Z.isWt, Z.wComp, Z.wFor, Z.wSs_nil, Z.wS, Z.wE, Z.wEs, Z.wO, Z.wC, Z.wI, Z.binW, Z.binI, Z.cmpW, Z.truW, Z.itemW, Z.sliceW, Z.revW, Z.stpW, Z.xtW, Z.storeW, Z.biW_1, Z.biW_2, Z.biW_3, Z.biW_4, Z.biW_5, Z.biW_6, Z.biW_7, Z.biW_8, Z.biW_9, Z.biW_10, Z.biW_11, Z.biW_12, Z.biW_13, Z.biW_14, Z.biW_15, Z.biW_16, Z.biW_17, Z.biW_18, Z.biW_19, Z.biW_20, Z.biW_21, Z.biW_22, Z.biW_23, Z.biW_24, Z.biW_25, Z.biW_26, Z.biW_27, Z.biW_28, Z.biW_29, Z.biW_30, Z.biW_31, Z.biW_32, Z.biW_33, Z.biW_34, Z.biW_35, Z.biW_36, Z.biW_37, Z.biW_38, Z.biW_39, Z.biW_40, Z.biW_41, Z.biW_42, Z.biW_43, Z.biW_44, Z.isT, Z.isxW, Z.isxsW, Z.miW_1, Z.miW_2, Z.miW_3, Z.miW_4, Z.miW_5, Z.miW_6, Z.miW_7, Z.miW_8, Z.miW_9, Z.miW_10, Z.miW_11, Z.isL, Z.getL, Z.getD, Z.listW, Z.seqW, Z.walkW, Z.fldW, Z.insW, Z.stfW, Z.getO, Z.putZ, Z.pairW, Z.dgetW, Z.isD, Z.smW, Z.isS, Z.tgt, Z.tgts, Z.wipeZ, Z.grdOk, Z.eqW_int, Z.enter, List.map_cons, List.map_nil, List.length_cons, List.length_nil, List.replicate_succ, List.replicate_zero, Nat.add_sub_cancel, Nat.sub_self, Nat.zero_add, List.cons_append, List.nil_append, List.getElem?_cons_zero, List.getElem?_cons_succ, List.set_cons_zero, List.set_cons_succ, if_true, if_false, ite_true, ite_false, Bool.not_true, Bool.not_false, Bool.true_eq_false, Bool.false_eq_true, true_and, and_true, reduceCtorEq, Option.some.injEq, false_and, and_false, false_or, or_false, true_or, or_true, Nat.reduceAdd, Nat.reduceSub, List.isEmpty_cons, List.isEmpty_nil, beq_self_eq_true, decide_true, decide_false, Bool.false_or, Bool.true_or, Bool.or_false, Bool.or_true, Bool.and_true, Bool.and_false, Bool.true_and, Bool.false_and, reduceIte, dite_true, dite_false, beq_iff_eq, decide_eq_true_eq, bne_iff_ne, Z.ixN_int, Int.reduceLE, Int.reduceLT, Int.reduceNeg, Int.reduceToNat, Int.cast_ofNat_Int, exists_and_left, exists_eq_left', exists_eq_left, exists_eq', not_true_eq_false, not_false_eq_true, Int.toNat_natCast, Nat.reduceLT, Nat.reduceLeDiff, ne_eq, Z.big, Nat.zero_le, List.length_map, List.getElem?_map, Option.map_some, Option.map_none, Int.reducePow, Nat.reducePow, $xs,*])

/-! Zcom: the helpers that most laws share. -/
namespace Com
open PySem Z
/-! what is done with known values: by lemmas, lest simp unfolds all of biW where the values are not known yet -/
def max2W (x y : PV) (h : Hep) (F : KQ) : Prop := biW .max2 [x, y] h F
theorem wE_max2 {Γ : List Z.Spec} {a b : Ex} {σ : Z.Env} {h : Hep} {F : KQ} {E : KX} : Z.wE Γ (.bi .max2 [a, b]) σ h F E = Z.wE Γ a σ h (fun x h1 => Z.wE Γ b σ h1 (fun y h2 => max2W x y h2 F) E) E := rfl
theorem max2W_int {i j : Int} {h : Hep} {F : KQ} : max2W (.int i) (.int j) h F = F (.int (max i j)) h := rfl
def ir__law_mixed : List Sm := [
  .set (.nm 2) (.bin .Mod (.bin .Mult (.bin .Add (.bin .Add (.bin .Mod (.var 0) (.int 1000000007)) (.bin .Mult (.bin .Mult (.int 31) (.var 1)) (.var 1))) (.int 7)) (.int 48271)) (.int 2147483647)),
  .ret (.bin .Mod (.bin .Mult (.var 2) (.bin .Add (.int 16807) (.bin .Mult (.int 7919) (.var 1)))) (.int 2147483629))]
def sp__law_mixed : Z.Spec := fun args h F _ => ∃ c k : Int, args = [.int c, .int k] ∧ 0 ≤ k ∧ k ≤ 10 ^ 15 ∧ ∀ r : Int, 0 ≤ r → r < 2147483629 → F (.int r) h
theorem mulOk_l {i j : Int} (h1 : 0 ≤ i) (h2 : i < 2 ^ 64) : mulOk i j := .inl ⟨by omega, h2⟩
theorem mulOk_r {i j : Int} (h1 : 0 ≤ j) (h2 : j < 2 ^ 64) : mulOk i j := .inr (.inl ⟨by omega, h2⟩)
theorem divOk_of {j : Int} (h1 : 0 < j) (h2 : j < 2 ^ 64) : divOk j := by
  refine ⟨h1, ?_⟩
  have : j.natAbs < 2 ^ 64 := by omega
  have := (Nat.log2_lt (by omega : j.natAbs ≠ 0)).mpr this
  omega
theorem mt__law_mixed : Meets [] 3 2 ir__law_mixed sp__law_mixed := by
  rintro args h F E ⟨c, k, rfl, h1, h2, kf⟩
  refine ⟨rfl, ?_⟩
  unfold ir__law_mixed
  simp (maxSteps := 2000000) only [wSs, inW, dsetW, tixW, isWt, wComp, wFor, wSs_nil, wS, wE, wEs, wO, wC, wI, binW, binI, cmpW, truW, itemW, sliceW, revW, stpW, xtW, storeW, biW_1, biW_2, biW_3, biW_4, biW_5, biW_6, biW_7, biW_8, biW_9, biW_10, biW_11, biW_12, biW_13, biW_14, biW_15, biW_16, biW_17, biW_18, biW_19, biW_20, biW_21, biW_22, biW_23, biW_24, biW_25, biW_26, biW_27, biW_28, biW_29, biW_30, biW_31, biW_32, biW_33, biW_34, biW_35, biW_36, biW_37, biW_38, biW_39, biW_40, biW_41, biW_42, biW_43, biW_44, isT, isxW, isxsW, miW_1, miW_2, miW_3, miW_4, miW_5, miW_6, miW_7, miW_8, miW_9, miW_10, miW_11, isL, getL, getD, listW, seqW, walkW, fldW, insW, stfW, getO, putZ, pairW, dgetW, isD, smW, isS, tgt, tgts, wipeZ, grdOk, eqW_int, enter, List.map_cons, List.map_nil, List.length_cons, List.length_nil, List.replicate_succ, List.replicate_zero, Nat.add_sub_cancel, Nat.sub_self, Nat.zero_add, List.cons_append, List.nil_append, List.getElem?_cons_zero, List.getElem?_cons_succ, List.set_cons_zero, List.set_cons_succ, if_true, if_false, ite_true, ite_false, Bool.not_true, Bool.not_false, Bool.true_eq_false, Bool.false_eq_true, true_and, and_true, reduceCtorEq, Option.some.injEq, false_and, and_false, false_or, or_false, true_or, or_true, Nat.reduceAdd, Nat.reduceSub, List.isEmpty_cons, List.isEmpty_nil, beq_self_eq_true, decide_true, decide_false, Bool.false_or, Bool.true_or, Bool.or_false, Bool.or_true, Bool.and_true, Bool.and_false, Bool.true_and, Bool.false_and, reduceIte, dite_true, dite_false, beq_iff_eq, decide_eq_true_eq, bne_iff_ne, ixN_int, Int.reduceLE, Int.reduceLT, Int.reduceNeg, Int.reduceToNat, Int.cast_ofNat_Int, exists_and_left, exists_eq_left', exists_eq_left, exists_eq', not_true_eq_false, not_false_eq_true, Int.toNat_natCast, Nat.reduceLT, Nat.reduceLeDiff, ne_eq, big, Nat.zero_le, List.length_map, List.getElem?_map, Option.map_some, Option.map_none, Int.reducePow, Nat.reducePow]
  refine ⟨mulOk_l (by decide) (by decide), mulOk_r h1 (by omega), mulOk_r (by decide) (by decide), mulOk_l (by decide) (by decide), mulOk_l (by omega) (by omega), ?_⟩
  exact kf _ (Int.emod_nonneg _ (by decide)) (Int.emod_lt_of_pos _ (by decide))

/-- what a draw is: a number, a counter, what is left of a long number -/
def drawV (c n o : Int) : List PV := [.int c, .int n, .int o]
def ir__law_next : List Sm := [
  .ife (.cmp .Gt (.idx (.var 0) (.int 2)) (.int 0)) [.set (.nm 2) (.bin .Mod (.idx (.var 0) (.int 2)) (.var 1)), .sto (.var 0) (.int 2) (.bin .FloorDiv (.idx (.var 0) (.int 2)) (.var 1)), .ret (.var 2)] [],
  .sto (.var 0) (.int 1) (.bin .Add (.idx (.var 0) (.int 1)) (.int 1)),
  .set (.nm 3) (.bin .Add (.bin .Mult (.call 0 [(.idx (.var 0) (.int 0)), (.idx (.var 0) (.int 1))]) (.int 2147483629)) (.call 0 [(.idx (.var 0) (.int 0)), (.bin .Add (.idx (.var 0) (.int 1)) (.int 9001))])),
  .ret (.bin .Mod (.bin .FloorDiv (.var 3) (.int 11)) (.var 1))]
/-- a draw, whose counter is below 10^12 -/
def IsDraw (h : Hep) (d : Nat) (B : Int) : Prop := ∃ c n o : Int, h[d]? = some (.lst (drawV c n o)) ∧ 0 ≤ n ∧ n ≤ B ∧ 0 ≤ o
def sp__law_next : Z.Spec := fun args h F _ => ∃ (d : Nat) (m B : Int), args = [.ref d, .int m] ∧ IsDraw h d B ∧ B ≤ 10 ^ 12 ∧ 1 ≤ m ∧ m < 2 ^ 64 ∧ ∀ (v : Int) (h' : Hep), 0 ≤ v → v < m → IsDraw h' d (B + 1) → h'.length = h.length → (∀ q, q ≠ d → h'[q]? = h[q]?) → F (.int v) h'
theorem mt__law_next : Meets [sp__law_mixed] 4 2 ir__law_next sp__law_next := by
  rintro args h F E ⟨d, m, B, rfl, ⟨c, n, o, e, hn, hnB, ho⟩, hB, hm, hm2, kf⟩
  refine ⟨rfl, ?_⟩
  unfold ir__law_next
  simp (maxSteps := 2000000) only [wSs, inW, dsetW, tixW, isWt, wComp, wFor, wSs_nil, wS, wE, wEs, wO, wC, wI, binW, binI, cmpW, truW, itemW, sliceW, revW, stpW, xtW, storeW, biW_1, biW_2, biW_3, biW_4, biW_5, biW_6, biW_7, biW_8, biW_9, biW_10, biW_11, biW_12, biW_13, biW_14, biW_15, biW_16, biW_17, biW_18, biW_19, biW_20, biW_21, biW_22, biW_23, biW_24, biW_25, biW_26, biW_27, biW_28, biW_29, biW_30, biW_31, biW_32, biW_33, biW_34, biW_35, biW_36, biW_37, biW_38, biW_39, biW_40, biW_41, biW_42, biW_43, biW_44, isT, isxW, isxsW, miW_1, miW_2, miW_3, miW_4, miW_5, miW_6, miW_7, miW_8, miW_9, miW_10, miW_11, isL, getL, getD, listW, seqW, walkW, fldW, insW, stfW, getO, putZ, pairW, dgetW, isD, smW, isS, tgt, tgts, wipeZ, grdOk, eqW_int, enter, List.map_cons, List.map_nil, List.length_cons, List.length_nil, List.replicate_succ, List.replicate_zero, Nat.add_sub_cancel, Nat.sub_self, Nat.zero_add, List.cons_append, List.nil_append, List.getElem?_cons_zero, List.getElem?_cons_succ, List.set_cons_zero, List.set_cons_succ, if_true, if_false, ite_true, ite_false, Bool.not_true, Bool.not_false, Bool.true_eq_false, Bool.false_eq_true, true_and, and_true, reduceCtorEq, Option.some.injEq, false_and, and_false, false_or, or_false, true_or, or_true, Nat.reduceAdd, Nat.reduceSub, List.isEmpty_cons, List.isEmpty_nil, beq_self_eq_true, decide_true, decide_false, Bool.false_or, Bool.true_or, Bool.or_false, Bool.or_true, Bool.and_true, Bool.and_false, Bool.true_and, Bool.false_and, reduceIte, dite_true, dite_false, beq_iff_eq, decide_eq_true_eq, bne_iff_ne, ixN_int, Int.reduceLE, Int.reduceLT, Int.reduceNeg, Int.reduceToNat, Int.cast_ofNat_Int, exists_and_left, exists_eq_left', exists_eq_left, exists_eq', not_true_eq_false, not_false_eq_true, Int.toNat_natCast, Nat.reduceLT, Nat.reduceLeDiff, ne_eq, big, Nat.zero_le, List.length_map, List.getElem?_map, Option.map_some, Option.map_none, Int.reducePow, Nat.reducePow, e, drawV]
  by_cases c1 : 0 < o
  · simp (maxSteps := 2000000) only [wSs, inW, dsetW, tixW, isWt, wComp, wFor, wSs_nil, wS, wE, wEs, wO, wC, wI, binW, binI, cmpW, truW, itemW, sliceW, revW, stpW, xtW, storeW, biW_1, biW_2, biW_3, biW_4, biW_5, biW_6, biW_7, biW_8, biW_9, biW_10, biW_11, biW_12, biW_13, biW_14, biW_15, biW_16, biW_17, biW_18, biW_19, biW_20, biW_21, biW_22, biW_23, biW_24, biW_25, biW_26, biW_27, biW_28, biW_29, biW_30, biW_31, biW_32, biW_33, biW_34, biW_35, biW_36, biW_37, biW_38, biW_39, biW_40, biW_41, biW_42, biW_43, biW_44, isT, isxW, isxsW, miW_1, miW_2, miW_3, miW_4, miW_5, miW_6, miW_7, miW_8, miW_9, miW_10, miW_11, isL, getL, getD, listW, seqW, walkW, fldW, insW, stfW, getO, putZ, pairW, dgetW, isD, smW, isS, tgt, tgts, wipeZ, grdOk, eqW_int, enter, List.map_cons, List.map_nil, List.length_cons, List.length_nil, List.replicate_succ, List.replicate_zero, Nat.add_sub_cancel, Nat.sub_self, Nat.zero_add, List.cons_append, List.nil_append, List.getElem?_cons_zero, List.getElem?_cons_succ, List.set_cons_zero, List.set_cons_succ, if_true, if_false, ite_true, ite_false, Bool.not_true, Bool.not_false, Bool.true_eq_false, Bool.false_eq_true, true_and, and_true, reduceCtorEq, Option.some.injEq, false_and, and_false, false_or, or_false, true_or, or_true, Nat.reduceAdd, Nat.reduceSub, List.isEmpty_cons, List.isEmpty_nil, beq_self_eq_true, decide_true, decide_false, Bool.false_or, Bool.true_or, Bool.or_false, Bool.or_true, Bool.and_true, Bool.and_false, Bool.true_and, Bool.false_and, reduceIte, dite_true, dite_false, beq_iff_eq, decide_eq_true_eq, bne_iff_ne, ixN_int, Int.reduceLE, Int.reduceLT, Int.reduceNeg, Int.reduceToNat, Int.cast_ofNat_Int, exists_and_left, exists_eq_left', exists_eq_left, exists_eq', not_true_eq_false, not_false_eq_true, Int.toNat_natCast, Nat.reduceLT, Nat.reduceLeDiff, ne_eq, big, Nat.zero_le, List.length_map, List.getElem?_map, Option.map_some, Option.map_none, Int.reducePow, Nat.reducePow, c1]
    refine ⟨by omega, divOk_of (by omega) hm2, kf _ _ (Int.emod_nonneg _ (by omega)) (Int.emod_lt_of_pos _ (by omega)) ⟨c, n, o / m, set_get e, hn, by omega, Int.ediv_nonneg ho (by omega)⟩ (by simp) fun q hq => List.getElem?_set_ne (Ne.symm hq)⟩
  · simp (maxSteps := 2000000) only [wSs, inW, dsetW, tixW, isWt, wComp, wFor, wSs_nil, wS, wE, wEs, wO, wC, wI, binW, binI, cmpW, truW, itemW, sliceW, revW, stpW, xtW, storeW, biW_1, biW_2, biW_3, biW_4, biW_5, biW_6, biW_7, biW_8, biW_9, biW_10, biW_11, biW_12, biW_13, biW_14, biW_15, biW_16, biW_17, biW_18, biW_19, biW_20, biW_21, biW_22, biW_23, biW_24, biW_25, biW_26, biW_27, biW_28, biW_29, biW_30, biW_31, biW_32, biW_33, biW_34, biW_35, biW_36, biW_37, biW_38, biW_39, biW_40, biW_41, biW_42, biW_43, biW_44, isT, isxW, isxsW, miW_1, miW_2, miW_3, miW_4, miW_5, miW_6, miW_7, miW_8, miW_9, miW_10, miW_11, isL, getL, getD, listW, seqW, walkW, fldW, insW, stfW, getO, putZ, pairW, dgetW, isD, smW, isS, tgt, tgts, wipeZ, grdOk, eqW_int, enter, List.map_cons, List.map_nil, List.length_cons, List.length_nil, List.replicate_succ, List.replicate_zero, Nat.add_sub_cancel, Nat.sub_self, Nat.zero_add, List.cons_append, List.nil_append, List.getElem?_cons_zero, List.getElem?_cons_succ, List.set_cons_zero, List.set_cons_succ, if_true, if_false, ite_true, ite_false, Bool.not_true, Bool.not_false, Bool.true_eq_false, Bool.false_eq_true, true_and, and_true, reduceCtorEq, Option.some.injEq, false_and, and_false, false_or, or_false, true_or, or_true, Nat.reduceAdd, Nat.reduceSub, List.isEmpty_cons, List.isEmpty_nil, beq_self_eq_true, decide_true, decide_false, Bool.false_or, Bool.true_or, Bool.or_false, Bool.or_true, Bool.and_true, Bool.and_false, Bool.true_and, Bool.false_and, reduceIte, dite_true, dite_false, beq_iff_eq, decide_eq_true_eq, bne_iff_ne, ixN_int, Int.reduceLE, Int.reduceLT, Int.reduceNeg, Int.reduceToNat, Int.cast_ofNat_Int, exists_and_left, exists_eq_left', exists_eq_left, exists_eq', not_true_eq_false, not_false_eq_true, Int.toNat_natCast, Nat.reduceLT, Nat.reduceLeDiff, ne_eq, big, Nat.zero_le, List.length_map, List.getElem?_map, Option.map_some, Option.map_none, Int.reducePow, Nat.reducePow, c1, set_get e]
    refine ⟨c, n + 1, rfl, by omega, by omega, fun r hr1 hr2 => ?_⟩
    simp (maxSteps := 2000000) only [wSs, inW, dsetW, tixW, isWt, wComp, wFor, wSs_nil, wS, wE, wEs, wO, wC, wI, binW, binI, cmpW, truW, itemW, sliceW, revW, stpW, xtW, storeW, biW_1, biW_2, biW_3, biW_4, biW_5, biW_6, biW_7, biW_8, biW_9, biW_10, biW_11, biW_12, biW_13, biW_14, biW_15, biW_16, biW_17, biW_18, biW_19, biW_20, biW_21, biW_22, biW_23, biW_24, biW_25, biW_26, biW_27, biW_28, biW_29, biW_30, biW_31, biW_32, biW_33, biW_34, biW_35, biW_36, biW_37, biW_38, biW_39, biW_40, biW_41, biW_42, biW_43, biW_44, isT, isxW, isxsW, miW_1, miW_2, miW_3, miW_4, miW_5, miW_6, miW_7, miW_8, miW_9, miW_10, miW_11, isL, getL, getD, listW, seqW, walkW, fldW, insW, stfW, getO, putZ, pairW, dgetW, isD, smW, isS, tgt, tgts, wipeZ, grdOk, eqW_int, enter, List.map_cons, List.map_nil, List.length_cons, List.length_nil, List.replicate_succ, List.replicate_zero, Nat.add_sub_cancel, Nat.sub_self, Nat.zero_add, List.cons_append, List.nil_append, List.getElem?_cons_zero, List.getElem?_cons_succ, List.set_cons_zero, List.set_cons_succ, if_true, if_false, ite_true, ite_false, Bool.not_true, Bool.not_false, Bool.true_eq_false, Bool.false_eq_true, true_and, and_true, reduceCtorEq, Option.some.injEq, false_and, and_false, false_or, or_false, true_or, or_true, Nat.reduceAdd, Nat.reduceSub, List.isEmpty_cons, List.isEmpty_nil, beq_self_eq_true, decide_true, decide_false, Bool.false_or, Bool.true_or, Bool.or_false, Bool.or_true, Bool.and_true, Bool.and_false, Bool.true_and, Bool.false_and, reduceIte, dite_true, dite_false, beq_iff_eq, decide_eq_true_eq, bne_iff_ne, ixN_int, Int.reduceLE, Int.reduceLT, Int.reduceNeg, Int.reduceToNat, Int.cast_ofNat_Int, exists_and_left, exists_eq_left', exists_eq_left, exists_eq', not_true_eq_false, not_false_eq_true, Int.toNat_natCast, Nat.reduceLT, Nat.reduceLeDiff, ne_eq, big, Nat.zero_le, List.length_map, List.getElem?_map, Option.map_some, Option.map_none, Int.reducePow, Nat.reducePow, set_get e]
    refine ⟨mulOk_r (by decide) (by decide), c, n + 1 + 9001, rfl, by omega, by omega, fun r2 _ _ => ?_⟩
    simp (maxSteps := 2000000) only [wSs, inW, dsetW, tixW, isWt, wComp, wFor, wSs_nil, wS, wE, wEs, wO, wC, wI, binW, binI, cmpW, truW, itemW, sliceW, revW, stpW, xtW, storeW, biW_1, biW_2, biW_3, biW_4, biW_5, biW_6, biW_7, biW_8, biW_9, biW_10, biW_11, biW_12, biW_13, biW_14, biW_15, biW_16, biW_17, biW_18, biW_19, biW_20, biW_21, biW_22, biW_23, biW_24, biW_25, biW_26, biW_27, biW_28, biW_29, biW_30, biW_31, biW_32, biW_33, biW_34, biW_35, biW_36, biW_37, biW_38, biW_39, biW_40, biW_41, biW_42, biW_43, biW_44, isT, isxW, isxsW, miW_1, miW_2, miW_3, miW_4, miW_5, miW_6, miW_7, miW_8, miW_9, miW_10, miW_11, isL, getL, getD, listW, seqW, walkW, fldW, insW, stfW, getO, putZ, pairW, dgetW, isD, smW, isS, tgt, tgts, wipeZ, grdOk, eqW_int, enter, List.map_cons, List.map_nil, List.length_cons, List.length_nil, List.replicate_succ, List.replicate_zero, Nat.add_sub_cancel, Nat.sub_self, Nat.zero_add, List.cons_append, List.nil_append, List.getElem?_cons_zero, List.getElem?_cons_succ, List.set_cons_zero, List.set_cons_succ, if_true, if_false, ite_true, ite_false, Bool.not_true, Bool.not_false, Bool.true_eq_false, Bool.false_eq_true, true_and, and_true, reduceCtorEq, Option.some.injEq, false_and, and_false, false_or, or_false, true_or, or_true, Nat.reduceAdd, Nat.reduceSub, List.isEmpty_cons, List.isEmpty_nil, beq_self_eq_true, decide_true, decide_false, Bool.false_or, Bool.true_or, Bool.or_false, Bool.or_true, Bool.and_true, Bool.and_false, Bool.true_and, Bool.false_and, reduceIte, dite_true, dite_false, beq_iff_eq, decide_eq_true_eq, bne_iff_ne, ixN_int, Int.reduceLE, Int.reduceLT, Int.reduceNeg, Int.reduceToNat, Int.cast_ofNat_Int, exists_and_left, exists_eq_left', exists_eq_left, exists_eq', not_true_eq_false, not_false_eq_true, Int.toNat_natCast, Nat.reduceLT, Nat.reduceLeDiff, ne_eq, big, Nat.zero_le, List.length_map, List.getElem?_map, Option.map_some, Option.map_none, Int.reducePow, Nat.reducePow]
    exact ⟨divOk_of (by decide) (by decide), by omega, kf _ _ (Int.emod_nonneg _ (by omega)) (Int.emod_lt_of_pos _ (by omega)) ⟨c, n + 1, o, set_get e, by omega, by omega, ho⟩ (by simp) fun q hq => List.getElem?_set_ne (Ne.symm hq)⟩
/-! the draw of a script -/
def ir__law_draw : List Sm := [
  .set (.nm 2) (.ife (.cmp .NotEq (.var 0) (.lst [])) (.idx (.var 0) (.bin .Mod (.var 1) (.bi .len [(.var 0)]))) (.int 0)),
  .set (.nm 3) (.ife (.cmp .GtE (.var 2) (.bin .Pow (.int 10) (.int 18))) (.var 2) (.int 0)),
  .for_ (.nm 4) (.rng1 (.bin .FloorDiv (.var 1) (.bi .max2 [(.int 1), (.bi .len [(.var 0)])]))) [.set (.nm 3) (.bin .FloorDiv (.var 3) (.bin .Pow (.int 10) (.int 18)))],
  .ret (.lst [(.var 2), (.bin .Mult (.int 64) (.var 1)), (.var 3)])]
def sp__law_draw : Z.Spec := fun args h F _ => ∃ (ns : List Int) (k : Int), args = [.ils (ns.map PV.int), .int k] ∧ ns.length ≤ 63 ∧ 0 ≤ k ∧ k ≤ 10 ^ 6 ∧ ∀ (r : Nat) (h' : Hep), Ext h h' → h.length ≤ r → IsDraw h' r (10 ^ 9) → F (.ref r) h'
theorem mt__law_draw : Meets [] 5 2 ir__law_draw sp__law_draw := by
  rintro args h F E ⟨ns, k, rfl, hl, hk, hk2, kf⟩
  refine ⟨rfl, ?_⟩
  unfold ir__law_draw
  simp (maxSteps := 2000000) only [wSs, inW, dsetW, tixW, isWt, wComp, wFor, wSs_nil, wS, wE, wEs, wO, wC, wI, binW, binI, cmpW, truW, itemW, sliceW, revW, stpW, xtW, storeW, biW_1, biW_2, biW_3, biW_4, biW_5, biW_6, biW_7, biW_8, biW_9, biW_10, biW_11, biW_12, biW_13, biW_14, biW_15, biW_16, biW_17, biW_18, biW_19, biW_20, biW_21, biW_22, biW_23, biW_24, biW_25, biW_26, biW_27, biW_28, biW_29, biW_30, biW_31, biW_32, biW_33, biW_34, biW_35, biW_36, biW_37, biW_38, biW_39, biW_40, biW_41, biW_42, biW_43, biW_44, isT, isxW, isxsW, miW_1, miW_2, miW_3, miW_4, miW_5, miW_6, miW_7, miW_8, miW_9, miW_10, miW_11, isL, getL, getD, listW, seqW, walkW, fldW, insW, stfW, getO, putZ, pairW, dgetW, isD, smW, isS, tgt, tgts, wipeZ, grdOk, eqW_int, enter, List.map_cons, List.map_nil, List.length_cons, List.length_nil, List.replicate_succ, List.replicate_zero, Nat.add_sub_cancel, Nat.sub_self, Nat.zero_add, List.cons_append, List.nil_append, List.getElem?_cons_zero, List.getElem?_cons_succ, List.set_cons_zero, List.set_cons_succ, if_true, if_false, ite_true, ite_false, Bool.not_true, Bool.not_false, Bool.true_eq_false, Bool.false_eq_true, true_and, and_true, reduceCtorEq, Option.some.injEq, false_and, and_false, false_or, or_false, true_or, or_true, Nat.reduceAdd, Nat.reduceSub, List.isEmpty_cons, List.isEmpty_nil, beq_self_eq_true, decide_true, decide_false, Bool.false_or, Bool.true_or, Bool.or_false, Bool.or_true, Bool.and_true, Bool.and_false, Bool.true_and, Bool.false_and, reduceIte, dite_true, dite_false, beq_iff_eq, decide_eq_true_eq, bne_iff_ne, ixN_int, Int.reduceLE, Int.reduceLT, Int.reduceNeg, Int.reduceToNat, Int.cast_ofNat_Int, exists_and_left, exists_eq_left', exists_eq_left, exists_eq', not_true_eq_false, not_false_eq_true, Int.toNat_natCast, Nat.reduceLT, Nat.reduceLeDiff, ne_eq, big, Nat.zero_le, List.length_map, List.getElem?_map, Option.map_some, Option.map_none, Int.reducePow, Nat.reducePow]
  have pw : powOk 10 18 := ⟨by decide, by decide, by decide⟩
  have loop : ∀ (c o : Int) (hh : Hep) (m : Int), 0 ≤ o → ∀ (b : Z.Env → Hep → Dz → Prop) (D : Dz), (∀ y o h' D', 0 ≤ o → (∀ o', 0 ≤ o' → D'.nx [some (PV.ils (ns.map PV.int)), some (.int k), some (.int c), some (.int o'), y] h') → b [some (PV.ils (ns.map PV.int)), some (.int k), some (.int c), some (.int o), y] h' D') →
      (∀ y o, 0 ≤ o → D.nx [some (PV.ils (ns.map PV.int)), some (.int k), some (.int c), some (.int o), y] hh) →
      wFor [] (Tg.nm 4) b (rngL 0 (k / m).toNat) [some (PV.ils (ns.map PV.int)), some (.int k), some (.int c), some (.int o), none] hh D := by
    intro c o hh m ho b D hb hD
    refine wFor_ind (fun _ σ h' => h' = hh ∧ ∃ x o, σ = [some (PV.ils (ns.map PV.int)), some (.int k), some (.int c), some (.int o), x] ∧ 0 ≤ o) _ _ _ ⟨rfl, none, o, rfl, ho⟩ ?_ ?_
    · rintro x r σ h' ⟨rfl, y, o, rfl, ho⟩
      refine ⟨trivial, _, rfl, fun K hK => ?_⟩
      exact hb (some x) o _ _ ho fun o' ho' => hK _ _ ⟨rfl, some x, o', rfl, ho'⟩
    · rintro σ h' ⟨rfl, y, o, rfl, ho⟩
      exact ⟨trivial, hD y o ho⟩
  have fin : ∀ (c o : Int), 0 ≤ o → F (PV.ref (h ++ [Ob.lst []]).length) (h ++ [Ob.lst []] ++ [Ob.lst [PV.int c, PV.int (64 * k), PV.int o]]) := fun c o ho => kf _ _ (Ext.app.trans .app) (by simp) ⟨c, 64 * k, o, new_get, by omega, by omega, ho⟩
  refine eqW_iempty new_get ?_
  have m1 : 1 ≤ max (1 : Int) (ns.length : Int) := by omega
  have k1 : 0 ≤ k / max (1 : Int) (ns.length : Int) := Int.ediv_nonneg hk (by omega)
  have k2 : k / max (1 : Int) (ns.length : Int) ≤ k := Int.ediv_le_self _ hk
  have dv : divOk (max (1 : Int) (ns.length : Int)) := divOk_of (by omega) (by omega)
  have d10 : divOk 1000000000000000000 := divOk_of (by decide) (by decide)
  have mk : mulOk 64 k := mulOk_l (by decide) (by decide)
  cases hns : ns.isEmpty with
  | true =>
    obtain rfl : ns = [] := List.isEmpty_iff.mp hns
    have q1 : 0 ≤ k / max (1 : Int) 0 := Int.ediv_nonneg hk (by decide)
    have q2 : k / max (1 : Int) 0 ≤ k := Int.ediv_le_self _ hk
    simp (maxSteps := 2000000) only [wSs, inW, dsetW, tixW, isWt, wComp, wFor, wSs_nil, wS, wE, wEs, wO, wC, wI, binW, binI, cmpW, truW, itemW, sliceW, revW, stpW, xtW, storeW, biW_1, biW_2, biW_3, biW_4, biW_5, biW_6, biW_7, biW_8, biW_9, biW_10, biW_11, biW_12, biW_13, biW_14, biW_15, biW_16, biW_17, biW_18, biW_19, biW_20, biW_21, biW_22, biW_23, biW_24, biW_25, biW_26, biW_27, biW_28, biW_29, biW_30, biW_31, biW_32, biW_33, biW_34, biW_35, biW_36, biW_37, biW_38, biW_39, biW_40, biW_41, biW_42, biW_43, biW_44, isT, isxW, isxsW, miW_1, miW_2, miW_3, miW_4, miW_5, miW_6, miW_7, miW_8, miW_9, miW_10, miW_11, isL, getL, getD, listW, seqW, walkW, fldW, insW, stfW, getO, putZ, pairW, dgetW, isD, smW, isS, tgt, tgts, wipeZ, grdOk, eqW_int, enter, List.map_cons, List.map_nil, List.length_cons, List.length_nil, List.replicate_succ, List.replicate_zero, Nat.add_sub_cancel, Nat.sub_self, Nat.zero_add, List.cons_append, List.nil_append, List.getElem?_cons_zero, List.getElem?_cons_succ, List.set_cons_zero, List.set_cons_succ, if_true, if_false, ite_true, ite_false, Bool.not_true, Bool.not_false, Bool.true_eq_false, Bool.false_eq_true, true_and, and_true, reduceCtorEq, Option.some.injEq, false_and, and_false, false_or, or_false, true_or, or_true, Nat.reduceAdd, Nat.reduceSub, List.isEmpty_cons, List.isEmpty_nil, beq_self_eq_true, decide_true, decide_false, Bool.false_or, Bool.true_or, Bool.or_false, Bool.or_true, Bool.and_true, Bool.and_false, Bool.true_and, Bool.false_and, reduceIte, dite_true, dite_false, beq_iff_eq, decide_eq_true_eq, bne_iff_ne, ixN_int, Int.reduceLE, Int.reduceLT, Int.reduceNeg, Int.reduceToNat, Int.cast_ofNat_Int, exists_and_left, exists_eq_left', exists_eq_left, exists_eq', not_true_eq_false, not_false_eq_true, Int.toNat_natCast, Nat.reduceLT, Nat.reduceLeDiff, ne_eq, big, Nat.zero_le, List.length_map, List.getElem?_map, Option.map_some, Option.map_none, Int.reducePow, Nat.reducePow, pw]
    refine ⟨dv, by omega, by omega, loop _ _ _ _ (by omega) _ _ (fun y o h' D' ho hn => ?_) fun y o ho => ?_⟩
    · simp (maxSteps := 2000000) only [wSs, inW, dsetW, tixW, isWt, wComp, wFor, wSs_nil, wS, wE, wEs, wO, wC, wI, binW, binI, cmpW, truW, itemW, sliceW, revW, stpW, xtW, storeW, biW_1, biW_2, biW_3, biW_4, biW_5, biW_6, biW_7, biW_8, biW_9, biW_10, biW_11, biW_12, biW_13, biW_14, biW_15, biW_16, biW_17, biW_18, biW_19, biW_20, biW_21, biW_22, biW_23, biW_24, biW_25, biW_26, biW_27, biW_28, biW_29, biW_30, biW_31, biW_32, biW_33, biW_34, biW_35, biW_36, biW_37, biW_38, biW_39, biW_40, biW_41, biW_42, biW_43, biW_44, isT, isxW, isxsW, miW_1, miW_2, miW_3, miW_4, miW_5, miW_6, miW_7, miW_8, miW_9, miW_10, miW_11, isL, getL, getD, listW, seqW, walkW, fldW, insW, stfW, getO, putZ, pairW, dgetW, isD, smW, isS, tgt, tgts, wipeZ, grdOk, eqW_int, enter, List.map_cons, List.map_nil, List.length_cons, List.length_nil, List.replicate_succ, List.replicate_zero, Nat.add_sub_cancel, Nat.sub_self, Nat.zero_add, List.cons_append, List.nil_append, List.getElem?_cons_zero, List.getElem?_cons_succ, List.set_cons_zero, List.set_cons_succ, if_true, if_false, ite_true, ite_false, Bool.not_true, Bool.not_false, Bool.true_eq_false, Bool.false_eq_true, true_and, and_true, reduceCtorEq, Option.some.injEq, false_and, and_false, false_or, or_false, true_or, or_true, Nat.reduceAdd, Nat.reduceSub, List.isEmpty_cons, List.isEmpty_nil, beq_self_eq_true, decide_true, decide_false, Bool.false_or, Bool.true_or, Bool.or_false, Bool.or_true, Bool.and_true, Bool.and_false, Bool.true_and, Bool.false_and, reduceIte, dite_true, dite_false, beq_iff_eq, decide_eq_true_eq, bne_iff_ne, ixN_int, Int.reduceLE, Int.reduceLT, Int.reduceNeg, Int.reduceToNat, Int.cast_ofNat_Int, exists_and_left, exists_eq_left', exists_eq_left, exists_eq', not_true_eq_false, not_false_eq_true, Int.toNat_natCast, Nat.reduceLT, Nat.reduceLeDiff, ne_eq, big, Nat.zero_le, List.length_map, List.getElem?_map, Option.map_some, Option.map_none, Int.reducePow, Nat.reducePow, pw, d10]
      exact hn _ (Int.ediv_nonneg ho (by decide))
    · simp (maxSteps := 2000000) only [wSs, inW, dsetW, tixW, isWt, wComp, wFor, wSs_nil, wS, wE, wEs, wO, wC, wI, binW, binI, cmpW, truW, itemW, sliceW, revW, stpW, xtW, storeW, biW_1, biW_2, biW_3, biW_4, biW_5, biW_6, biW_7, biW_8, biW_9, biW_10, biW_11, biW_12, biW_13, biW_14, biW_15, biW_16, biW_17, biW_18, biW_19, biW_20, biW_21, biW_22, biW_23, biW_24, biW_25, biW_26, biW_27, biW_28, biW_29, biW_30, biW_31, biW_32, biW_33, biW_34, biW_35, biW_36, biW_37, biW_38, biW_39, biW_40, biW_41, biW_42, biW_43, biW_44, isT, isxW, isxsW, miW_1, miW_2, miW_3, miW_4, miW_5, miW_6, miW_7, miW_8, miW_9, miW_10, miW_11, isL, getL, getD, listW, seqW, walkW, fldW, insW, stfW, getO, putZ, pairW, dgetW, isD, smW, isS, tgt, tgts, wipeZ, grdOk, eqW_int, enter, List.map_cons, List.map_nil, List.length_cons, List.length_nil, List.replicate_succ, List.replicate_zero, Nat.add_sub_cancel, Nat.sub_self, Nat.zero_add, List.cons_append, List.nil_append, List.getElem?_cons_zero, List.getElem?_cons_succ, List.set_cons_zero, List.set_cons_succ, if_true, if_false, ite_true, ite_false, Bool.not_true, Bool.not_false, Bool.true_eq_false, Bool.false_eq_true, true_and, and_true, reduceCtorEq, Option.some.injEq, false_and, and_false, false_or, or_false, true_or, or_true, Nat.reduceAdd, Nat.reduceSub, List.isEmpty_cons, List.isEmpty_nil, beq_self_eq_true, decide_true, decide_false, Bool.false_or, Bool.true_or, Bool.or_false, Bool.or_true, Bool.and_true, Bool.and_false, Bool.true_and, Bool.false_and, reduceIte, dite_true, dite_false, beq_iff_eq, decide_eq_true_eq, bne_iff_ne, ixN_int, Int.reduceLE, Int.reduceLT, Int.reduceNeg, Int.reduceToNat, Int.cast_ofNat_Int, exists_and_left, exists_eq_left', exists_eq_left, exists_eq', not_true_eq_false, not_false_eq_true, Int.toNat_natCast, Nat.reduceLT, Nat.reduceLeDiff, ne_eq, big, Nat.zero_le, List.length_map, List.getElem?_map, Option.map_some, Option.map_none, Int.reducePow, Nat.reducePow, mk]
      exact fin _ _ ho
  | false =>
    have lz : 0 < ns.length := by
      cases ns with
      | nil => cases hns
      | cons _ _ => simp
    have j1 : 0 ≤ k % (ns.length : Int) := Int.emod_nonneg _ (by omega)
    have j2 : k % (ns.length : Int) < ns.length := Int.emod_lt_of_pos _ (by omega)
    have j3 : (k % (ns.length : Int)).toNat < ns.length := by omega
    simp (maxSteps := 2000000) only [wSs, inW, dsetW, tixW, isWt, wComp, wFor, wSs_nil, wS, wE, wEs, wO, wC, wI, binW, binI, cmpW, truW, itemW, sliceW, revW, stpW, xtW, storeW, biW_1, biW_2, biW_3, biW_4, biW_5, biW_6, biW_7, biW_8, biW_9, biW_10, biW_11, biW_12, biW_13, biW_14, biW_15, biW_16, biW_17, biW_18, biW_19, biW_20, biW_21, biW_22, biW_23, biW_24, biW_25, biW_26, biW_27, biW_28, biW_29, biW_30, biW_31, biW_32, biW_33, biW_34, biW_35, biW_36, biW_37, biW_38, biW_39, biW_40, biW_41, biW_42, biW_43, biW_44, isT, isxW, isxsW, miW_1, miW_2, miW_3, miW_4, miW_5, miW_6, miW_7, miW_8, miW_9, miW_10, miW_11, isL, getL, getD, listW, seqW, walkW, fldW, insW, stfW, getO, putZ, pairW, dgetW, isD, smW, isS, tgt, tgts, wipeZ, grdOk, eqW_int, enter, List.map_cons, List.map_nil, List.length_cons, List.length_nil, List.replicate_succ, List.replicate_zero, Nat.add_sub_cancel, Nat.sub_self, Nat.zero_add, List.cons_append, List.nil_append, List.getElem?_cons_zero, List.getElem?_cons_succ, List.set_cons_zero, List.set_cons_succ, if_true, if_false, ite_true, ite_false, Bool.not_true, Bool.not_false, Bool.true_eq_false, Bool.false_eq_true, true_and, and_true, reduceCtorEq, Option.some.injEq, false_and, and_false, false_or, or_false, true_or, or_true, Nat.reduceAdd, Nat.reduceSub, List.isEmpty_cons, List.isEmpty_nil, beq_self_eq_true, decide_true, decide_false, Bool.false_or, Bool.true_or, Bool.or_false, Bool.or_true, Bool.and_true, Bool.and_false, Bool.true_and, Bool.false_and, reduceIte, dite_true, dite_false, beq_iff_eq, decide_eq_true_eq, bne_iff_ne, ixN_int, Int.reduceLE, Int.reduceLT, Int.reduceNeg, Int.reduceToNat, Int.cast_ofNat_Int, exists_and_left, exists_eq_left', exists_eq_left, exists_eq', not_true_eq_false, not_false_eq_true, Int.toNat_natCast, Nat.reduceLT, Nat.reduceLeDiff, ne_eq, big, Nat.zero_le, List.length_map, List.getElem?_map, Option.map_some, Option.map_none, Int.reducePow, Nat.reducePow, pw, ixN_int j1 j2, List.getElem?_eq_getElem j3]
    refine ⟨by omega, ?_⟩
    split
    · refine ⟨dv, by omega, by omega, loop _ _ _ _ (by omega) _ _ (fun y o h' D' ho hn => ?_) fun y o ho => ?_⟩
      · simp (maxSteps := 2000000) only [wSs, inW, dsetW, tixW, isWt, wComp, wFor, wSs_nil, wS, wE, wEs, wO, wC, wI, binW, binI, cmpW, truW, itemW, sliceW, revW, stpW, xtW, storeW, biW_1, biW_2, biW_3, biW_4, biW_5, biW_6, biW_7, biW_8, biW_9, biW_10, biW_11, biW_12, biW_13, biW_14, biW_15, biW_16, biW_17, biW_18, biW_19, biW_20, biW_21, biW_22, biW_23, biW_24, biW_25, biW_26, biW_27, biW_28, biW_29, biW_30, biW_31, biW_32, biW_33, biW_34, biW_35, biW_36, biW_37, biW_38, biW_39, biW_40, biW_41, biW_42, biW_43, biW_44, isT, isxW, isxsW, miW_1, miW_2, miW_3, miW_4, miW_5, miW_6, miW_7, miW_8, miW_9, miW_10, miW_11, isL, getL, getD, listW, seqW, walkW, fldW, insW, stfW, getO, putZ, pairW, dgetW, isD, smW, isS, tgt, tgts, wipeZ, grdOk, eqW_int, enter, List.map_cons, List.map_nil, List.length_cons, List.length_nil, List.replicate_succ, List.replicate_zero, Nat.add_sub_cancel, Nat.sub_self, Nat.zero_add, List.cons_append, List.nil_append, List.getElem?_cons_zero, List.getElem?_cons_succ, List.set_cons_zero, List.set_cons_succ, if_true, if_false, ite_true, ite_false, Bool.not_true, Bool.not_false, Bool.true_eq_false, Bool.false_eq_true, true_and, and_true, reduceCtorEq, Option.some.injEq, false_and, and_false, false_or, or_false, true_or, or_true, Nat.reduceAdd, Nat.reduceSub, List.isEmpty_cons, List.isEmpty_nil, beq_self_eq_true, decide_true, decide_false, Bool.false_or, Bool.true_or, Bool.or_false, Bool.or_true, Bool.and_true, Bool.and_false, Bool.true_and, Bool.false_and, reduceIte, dite_true, dite_false, beq_iff_eq, decide_eq_true_eq, bne_iff_ne, ixN_int, Int.reduceLE, Int.reduceLT, Int.reduceNeg, Int.reduceToNat, Int.cast_ofNat_Int, exists_and_left, exists_eq_left', exists_eq_left, exists_eq', not_true_eq_false, not_false_eq_true, Int.toNat_natCast, Nat.reduceLT, Nat.reduceLeDiff, ne_eq, big, Nat.zero_le, List.length_map, List.getElem?_map, Option.map_some, Option.map_none, Int.reducePow, Nat.reducePow, pw, d10]
        exact hn _ (Int.ediv_nonneg ho (by decide))
      · simp (maxSteps := 2000000) only [wSs, inW, dsetW, tixW, isWt, wComp, wFor, wSs_nil, wS, wE, wEs, wO, wC, wI, binW, binI, cmpW, truW, itemW, sliceW, revW, stpW, xtW, storeW, biW_1, biW_2, biW_3, biW_4, biW_5, biW_6, biW_7, biW_8, biW_9, biW_10, biW_11, biW_12, biW_13, biW_14, biW_15, biW_16, biW_17, biW_18, biW_19, biW_20, biW_21, biW_22, biW_23, biW_24, biW_25, biW_26, biW_27, biW_28, biW_29, biW_30, biW_31, biW_32, biW_33, biW_34, biW_35, biW_36, biW_37, biW_38, biW_39, biW_40, biW_41, biW_42, biW_43, biW_44, isT, isxW, isxsW, miW_1, miW_2, miW_3, miW_4, miW_5, miW_6, miW_7, miW_8, miW_9, miW_10, miW_11, isL, getL, getD, listW, seqW, walkW, fldW, insW, stfW, getO, putZ, pairW, dgetW, isD, smW, isS, tgt, tgts, wipeZ, grdOk, eqW_int, enter, List.map_cons, List.map_nil, List.length_cons, List.length_nil, List.replicate_succ, List.replicate_zero, Nat.add_sub_cancel, Nat.sub_self, Nat.zero_add, List.cons_append, List.nil_append, List.getElem?_cons_zero, List.getElem?_cons_succ, List.set_cons_zero, List.set_cons_succ, if_true, if_false, ite_true, ite_false, Bool.not_true, Bool.not_false, Bool.true_eq_false, Bool.false_eq_true, true_and, and_true, reduceCtorEq, Option.some.injEq, false_and, and_false, false_or, or_false, true_or, or_true, Nat.reduceAdd, Nat.reduceSub, List.isEmpty_cons, List.isEmpty_nil, beq_self_eq_true, decide_true, decide_false, Bool.false_or, Bool.true_or, Bool.or_false, Bool.or_true, Bool.and_true, Bool.and_false, Bool.true_and, Bool.false_and, reduceIte, dite_true, dite_false, beq_iff_eq, decide_eq_true_eq, bne_iff_ne, ixN_int, Int.reduceLE, Int.reduceLT, Int.reduceNeg, Int.reduceToNat, Int.cast_ofNat_Int, exists_and_left, exists_eq_left', exists_eq_left, exists_eq', not_true_eq_false, not_false_eq_true, Int.toNat_natCast, Nat.reduceLT, Nat.reduceLeDiff, ne_eq, big, Nat.zero_le, List.length_map, List.getElem?_map, Option.map_some, Option.map_none, Int.reducePow, Nat.reducePow, mk]
        exact fin _ _ ho
    · refine ⟨dv, by omega, by omega, loop _ _ _ _ (by omega) _ _ (fun y o h' D' ho hn => ?_) fun y o ho => ?_⟩
      · simp (maxSteps := 2000000) only [wSs, inW, dsetW, tixW, isWt, wComp, wFor, wSs_nil, wS, wE, wEs, wO, wC, wI, binW, binI, cmpW, truW, itemW, sliceW, revW, stpW, xtW, storeW, biW_1, biW_2, biW_3, biW_4, biW_5, biW_6, biW_7, biW_8, biW_9, biW_10, biW_11, biW_12, biW_13, biW_14, biW_15, biW_16, biW_17, biW_18, biW_19, biW_20, biW_21, biW_22, biW_23, biW_24, biW_25, biW_26, biW_27, biW_28, biW_29, biW_30, biW_31, biW_32, biW_33, biW_34, biW_35, biW_36, biW_37, biW_38, biW_39, biW_40, biW_41, biW_42, biW_43, biW_44, isT, isxW, isxsW, miW_1, miW_2, miW_3, miW_4, miW_5, miW_6, miW_7, miW_8, miW_9, miW_10, miW_11, isL, getL, getD, listW, seqW, walkW, fldW, insW, stfW, getO, putZ, pairW, dgetW, isD, smW, isS, tgt, tgts, wipeZ, grdOk, eqW_int, enter, List.map_cons, List.map_nil, List.length_cons, List.length_nil, List.replicate_succ, List.replicate_zero, Nat.add_sub_cancel, Nat.sub_self, Nat.zero_add, List.cons_append, List.nil_append, List.getElem?_cons_zero, List.getElem?_cons_succ, List.set_cons_zero, List.set_cons_succ, if_true, if_false, ite_true, ite_false, Bool.not_true, Bool.not_false, Bool.true_eq_false, Bool.false_eq_true, true_and, and_true, reduceCtorEq, Option.some.injEq, false_and, and_false, false_or, or_false, true_or, or_true, Nat.reduceAdd, Nat.reduceSub, List.isEmpty_cons, List.isEmpty_nil, beq_self_eq_true, decide_true, decide_false, Bool.false_or, Bool.true_or, Bool.or_false, Bool.or_true, Bool.and_true, Bool.and_false, Bool.true_and, Bool.false_and, reduceIte, dite_true, dite_false, beq_iff_eq, decide_eq_true_eq, bne_iff_ne, ixN_int, Int.reduceLE, Int.reduceLT, Int.reduceNeg, Int.reduceToNat, Int.cast_ofNat_Int, exists_and_left, exists_eq_left', exists_eq_left, exists_eq', not_true_eq_false, not_false_eq_true, Int.toNat_natCast, Nat.reduceLT, Nat.reduceLeDiff, ne_eq, big, Nat.zero_le, List.length_map, List.getElem?_map, Option.map_some, Option.map_none, Int.reducePow, Nat.reducePow, pw, d10]
        exact hn _ (Int.ediv_nonneg ho (by decide))
      · simp (maxSteps := 2000000) only [wSs, inW, dsetW, tixW, isWt, wComp, wFor, wSs_nil, wS, wE, wEs, wO, wC, wI, binW, binI, cmpW, truW, itemW, sliceW, revW, stpW, xtW, storeW, biW_1, biW_2, biW_3, biW_4, biW_5, biW_6, biW_7, biW_8, biW_9, biW_10, biW_11, biW_12, biW_13, biW_14, biW_15, biW_16, biW_17, biW_18, biW_19, biW_20, biW_21, biW_22, biW_23, biW_24, biW_25, biW_26, biW_27, biW_28, biW_29, biW_30, biW_31, biW_32, biW_33, biW_34, biW_35, biW_36, biW_37, biW_38, biW_39, biW_40, biW_41, biW_42, biW_43, biW_44, isT, isxW, isxsW, miW_1, miW_2, miW_3, miW_4, miW_5, miW_6, miW_7, miW_8, miW_9, miW_10, miW_11, isL, getL, getD, listW, seqW, walkW, fldW, insW, stfW, getO, putZ, pairW, dgetW, isD, smW, isS, tgt, tgts, wipeZ, grdOk, eqW_int, enter, List.map_cons, List.map_nil, List.length_cons, List.length_nil, List.replicate_succ, List.replicate_zero, Nat.add_sub_cancel, Nat.sub_self, Nat.zero_add, List.cons_append, List.nil_append, List.getElem?_cons_zero, List.getElem?_cons_succ, List.set_cons_zero, List.set_cons_succ, if_true, if_false, ite_true, ite_false, Bool.not_true, Bool.not_false, Bool.true_eq_false, Bool.false_eq_true, true_and, and_true, reduceCtorEq, Option.some.injEq, false_and, and_false, false_or, or_false, true_or, or_true, Nat.reduceAdd, Nat.reduceSub, List.isEmpty_cons, List.isEmpty_nil, beq_self_eq_true, decide_true, decide_false, Bool.false_or, Bool.true_or, Bool.or_false, Bool.or_true, Bool.and_true, Bool.and_false, Bool.true_and, Bool.false_and, reduceIte, dite_true, dite_false, beq_iff_eq, decide_eq_true_eq, bne_iff_ne, ixN_int, Int.reduceLE, Int.reduceLT, Int.reduceNeg, Int.reduceToNat, Int.cast_ofNat_Int, exists_and_left, exists_eq_left', exists_eq_left, exists_eq', not_true_eq_false, not_false_eq_true, Int.toNat_natCast, Nat.reduceLT, Nat.reduceLeDiff, ne_eq, big, Nat.zero_le, List.length_map, List.getElem?_map, Option.map_some, Option.map_none, Int.reducePow, Nat.reducePow, mk]
        exact fin _ _ ho
/-! draws as heaps go on -/
theorem IsDraw.lt {h : Hep} {d : Nat} {B : Int} (a : IsDraw h d B) : d < h.length := by
  obtain ⟨_, _, _, e, _⟩ := a
  exact lt_of_get e
theorem IsDraw.app {h j : Hep} {d : Nat} {B : Int} (a : IsDraw h d B) : IsDraw (h ++ j) d B := by
  obtain ⟨c, n, o, e, r⟩ := a
  exact ⟨c, n, o, app_get e, r⟩
theorem IsDraw.set {h : Hep} {d r : Nat} {o : Ob} {B : Int} (a : IsDraw h d B) (n : d ≠ r) : IsDraw (h.set r o) d B := by
  obtain ⟨c, n', o', e, r'⟩ := a
  exact ⟨c, n', o', by rw [List.getElem?_set_ne (Ne.symm n)]; exact e, r'⟩
theorem IsDraw.le {h : Hep} {d : Nat} {B B' : Int} (a : IsDraw h d B) (l : B ≤ B') : IsDraw h d B' := by
  obtain ⟨c, n', o', e, r', r2, r3⟩ := a
  exact ⟨c, n', o', e, r', by omega, r3⟩
theorem nextB {h h' : Hep} {d : Nat} (l : h'.length = h.length) (e : ∀ q, q ≠ d → h'[q]? = h[q]?) : ExtB d h h' := ⟨by omega, fun q o n k => by rw [e q n]; exact k⟩
end Com

namespace Law
open PySem L2 Z
def top (i : Nat) : Stmt := PySem.Challenge.pw_boundsmith_k42_rows_and_sets_refused.main.body.getD i (.Pass ⟨0, 0, 0, 0⟩)
def cs : List (Str × PV) := [("MOST_ROWS", .int 30), ("MOST_LENGTH", .int 1000), ("FRONT", .str "front"), ("BACK", .str "back")]
/-! is_whole: slots 0=thing; callees  -/
abbrev s_is_whole : Stmt := top 16
def ir_is_whole : List Sm := [
  .ret (.and (.isi (.var 0) .int) (.not (.isi (.var 0) .bool)))]
theorem sc_is_whole : FnScope ["thing"] ["thing"] (defScope s_is_whole) := ⟨rfl, rfl, rfl, by decide +kernel, rfl, by decide +kernel, by decide +kernel⟩
theorem lk_is_whole : mtSs [] cs ["thing"] (defScope s_is_whole) ir_is_whole (defBody s_is_whole) = true := by decide +kernel
/-! is_among: slots 0=thing 1=least 2=most; callees 0=is_whole -/
abbrev s_is_among : Stmt := top 17
def ir_is_among : List Sm := [
  .ret (.and (.call 0 [(.var 0)]) (.chn .LtE .LtE (.var 1) (.var 0) (.var 2)))]
theorem sc_is_among : FnScope ["thing", "least", "most"] ["thing", "least", "most"] (defScope s_is_among) := ⟨rfl, rfl, rfl, by decide +kernel, rfl, by decide +kernel, by decide +kernel⟩
theorem lk_is_among : mtSs ["is_whole"] cs ["thing", "least", "most"] (defScope s_is_among) ir_is_among (defBody s_is_among) = true := by decide +kernel
/-! is_pair: slots 0=thing 1=length; callees 0=is_among -/
abbrev s_is_pair : Stmt := top 23
def ir_is_pair : List Sm := [
  .ife (.or (.not (.isi (.var 0) .tuple)) (.cmp .NotEq (.bi .len [(.var 0)]) (.int 2))) [.ret (.bl false)] [],
  .ret (.bi .all [(.comp [1] (.nm 1) (.wlk (.var 0)) none (.call 0 [(.var 1), (.int 1), (.con "MOST_LENGTH" (.int 1000))]))])]
theorem sc_is_pair : FnScope ["thing", "length"] ["thing"] (defScope s_is_pair) := ⟨rfl, rfl, rfl, by decide +kernel, rfl, by decide +kernel, by decide +kernel⟩
theorem lk_is_pair : mtSs ["is_among"] cs ["thing", "length"] (defScope s_is_pair) ir_is_pair (defBody s_is_pair) = true := by decide +kernel
/-! need_pairs: slots 0=rows 1=row; callees 0=is_pair 1=er:BadRows -/
abbrev s_need_pairs : Stmt := top 24
def ir_need_pairs : List Sm := [
  .ife (.or (.not (.isi (.var 0) .list)) (.or (.not (.chn .LtE .LtE (.int 1) (.bi .len [(.var 0)]) (.con "MOST_ROWS" (.int 30)))) (.not (.bi .all [(.comp [1] (.nm 1) (.wlk (.var 0)) none (.call 0 [(.var 1)]))])))) [.rai "BadRows"] []]
theorem sc_need_pairs : FnScope ["rows", "row"] ["rows"] (defScope s_need_pairs) := ⟨rfl, rfl, rfl, by decide +kernel, rfl, by decide +kernel, by decide +kernel⟩
theorem lk_need_pairs : mtSs ["is_pair", .er "BadRows"] cs ["rows", "row"] (defScope s_need_pairs) ir_need_pairs (defBody s_need_pairs) = true := by decide +kernel
/-! is_order: slots 0=thing 1=many 2=one; callees 0=is_among -/
abbrev s_is_order : Stmt := top 25
def ir_is_order : List Sm := [
  .ife (.or (.not (.isi (.var 0) .list)) (.or (.cmp .NotEq (.bi .len [(.var 0)]) (.var 1)) (.not (.bi .all [(.comp [2] (.nm 2) (.wlk (.var 0)) none (.call 0 [(.var 2), (.int 0), (.bin .Sub (.var 1) (.int 1))]))])))) [.ret (.bl false)] [],
  .ret (.cmp .Eq (.bi .lenkeys [(.var 0)]) (.var 1))]
theorem sc_is_order : FnScope ["thing", "many", "one"] ["thing", "many"] (defScope s_is_order) := ⟨rfl, rfl, rfl, by decide +kernel, rfl, by decide +kernel, by decide +kernel⟩
theorem lk_is_order : mtSs ["is_among"] cs ["thing", "many", "one"] (defScope s_is_order) ir_is_order (defBody s_is_order) = true := by decide +kernel
/-! front_rows: slots 0=rows 1=one 2=number 3=k 4=row; callees  -/
abbrev s_front_rows : Stmt := top 26
def ir_front_rows : List Sm := [
  .ret (.comp [1, 2] (.tp [(.nm 1), (.nm 2)]) (.wlk (.bi .sorted [(.comp [3, 4] (.tp [(.nm 3), (.nm 4)]) (.enum (.var 0)) (some (.cmp .LtE (.idx (.var 4) (.int 0)) (.idx (.var 4) (.int 1)))) (.tup [(.idx (.var 4) (.int 0)), (.var 3)]))])) none (.var 2))]
theorem sc_front_rows : FnScope ["rows", "one", "number", "k", "row"] ["rows"] (defScope s_front_rows) := ⟨rfl, rfl, rfl, by decide +kernel, rfl, by decide +kernel, by decide +kernel⟩
theorem lk_front_rows : mtSs [] cs ["rows", "one", "number", "k", "row"] (defScope s_front_rows) ir_front_rows (defBody s_front_rows) = true := by decide +kernel
/-! back_rows: slots 0=rows 1=two 2=number 3=k 4=row; callees  -/
abbrev s_back_rows : Stmt := top 27
def ir_back_rows : List Sm := [
  .ret (.comp [1, 2] (.tp [(.nm 1), (.nm 2)]) (.wlk (.bi .sorted [(.comp [3, 4] (.tp [(.nm 3), (.nm 4)]) (.enum (.var 0)) (some (.cmp .Gt (.idx (.var 4) (.int 0)) (.idx (.var 4) (.int 1)))) (.tup [(.bin .Sub (.int 0) (.idx (.var 4) (.int 1))), (.var 3)]))])) none (.var 2))]
theorem sc_back_rows : FnScope ["rows", "two", "number", "k", "row"] ["rows"] (defScope s_back_rows) := ⟨rfl, rfl, rfl, by decide +kernel, rfl, by decide +kernel, by decide +kernel⟩
theorem lk_back_rows : mtSs [] cs ["rows", "two", "number", "k", "row"] (defScope s_back_rows) ir_back_rows (defBody s_back_rows) = true := by decide +kernel
/-! turn_of: slots 0=rows 1=order 2=one 3=two 4=place 5=at 6=number; callees  -/
abbrev s_turn_of : Stmt := top 28
def ir_turn_of : List Sm := [
  .set (.nm 2) (.int 0),
  .set (.nm 3) (.int 0),
  .set (.nm 4) (.int 0),
  .for_ (.tp [(.nm 5), (.nm 6)]) (.enum (.var 1)) [.set (.nm 2) (.bin .Add (.var 2) (.idx (.idx (.var 0) (.var 6)) (.int 0))), .ife (.cmp .GtE (.var 2) (.var 3)) [.set (.nm 3) (.var 2), .set (.nm 4) (.var 5)] [], .set (.nm 3) (.bin .Add (.var 3) (.idx (.idx (.var 0) (.var 6)) (.int 1)))],
  .ret (.tup [(.var 3), (.var 4)])]
theorem sc_turn_of : FnScope ["rows", "order", "one", "two", "place", "at", "number"] ["rows", "order"] (defScope s_turn_of) := ⟨rfl, rfl, rfl, by decide +kernel, rfl, by decide +kernel, by decide +kernel⟩
theorem lk_turn_of : mtSs [] cs ["rows", "order", "one", "two", "place", "at", "number"] (defScope s_turn_of) ir_turn_of (defBody s_turn_of) = true := by decide +kernel
/-! least_span: slots 0=rows 1=first 2=second 3=span 4=place; callees 0=need_pairs 1=front_rows 2=back_rows 3=turn_of -/
abbrev s_least_span : Stmt := top 29
def ir_least_span : List Sm := [
  .exp (.call 0 [(.var 0)]),
  .par 1 2 (.call 1 [(.var 0)]) (.call 2 [(.var 0)]),
  .set (.tp [(.nm 3), (.nm 4)]) (.call 3 [(.var 0), (.bin .Add (.var 1) (.var 2))]),
  .ife (.cmp .Lt (.var 4) (.bi .len [(.var 1)])) [.ret (.tup [(.var 3), (.bin .Add (.var 1) (.var 2)), (.tup [(.con "FRONT" (.str "front")), (.bi .tuple [(.bi .sorted [(.slc (.var 1) (some (.var 4)) none)])])])])] [],
  .ret (.tup [(.var 3), (.bin .Add (.var 1) (.var 2)), (.tup [(.con "BACK" (.str "back")), (.bi .tuple [(.bi .sorted [(.slc (.var 2) none (some (.bin .Add (.bin .Sub (.var 4) (.bi .len [(.var 1)])) (.int 1))))])])])])]
theorem sc_least_span : FnScope ["rows", "first", "second", "span", "place"] ["rows"] (defScope s_least_span) := ⟨rfl, rfl, rfl, by decide +kernel, rfl, by decide +kernel, by decide +kernel⟩
theorem lk_least_span : mtSs ["need_pairs", "front_rows", "back_rows", "turn_of"] cs ["rows", "first", "second", "span", "place"] (defScope s_least_span) ir_least_span (defBody s_least_span) = true := by decide +kernel
/-! is_set: slots 0=thing 1=many 2=one 3=k; callees 0=is_among -/
abbrev s_is_set : Stmt := top 30
def ir_is_set : List Sm := [
  .ife (.or (.not (.isi (.var 0) .tuple)) (.or (.cmp .Eq (.var 0) (.xtp [])) (.not (.bi .all [(.comp [2] (.nm 2) (.wlk (.var 0)) none (.call 0 [(.var 2), (.int 0), (.bin .Sub (.var 1) (.int 1))]))])))) [.ret (.bl false)] [],
  .ret (.bi .all [(.comp [3] (.nm 3) (.rng1 (.bin .Sub (.bi .len [(.var 0)]) (.int 1))) none (.cmp .Lt (.idx (.var 0) (.var 3)) (.idx (.var 0) (.bin .Add (.var 3) (.int 1)))))])]
theorem sc_is_set : FnScope ["thing", "many", "one", "k"] ["thing", "many"] (defScope s_is_set) := ⟨rfl, rfl, rfl, by decide +kernel, rfl, by decide +kernel, by decide +kernel⟩
theorem lk_is_set : mtSs ["is_among"] cs ["thing", "many", "one", "k"] (defScope s_is_set) ir_is_set (defBody s_is_set) = true := by decide +kernel
/-! set_bound: slots 0=rows 1=side 2=some 3=others 4=number 5=row 6=ones 7=twos; callees 0=need_pairs 1=is_set 2=er:BadTasks -/
abbrev s_set_bound : Stmt := top 31
def ir_set_bound : List Sm := [
  .exp (.call 0 [(.var 0)]),
  .ife (.or (.not (.isi (.var 1) .str)) (.or (.cmp .NotIn (.var 1) (.tup [(.con "FRONT" (.str "front")), (.con "BACK" (.str "back"))])) (.not (.call 1 [(.var 2), (.bi .len [(.var 0)])])))) [.rai "BadTasks"] [],
  .set (.nm 3) (.bi .sum [(.comp [4, 5] (.tp [(.nm 4), (.nm 5)]) (.enum (.var 0)) (some (.cmp .NotIn (.var 4) (.var 2))) (.bi .minl [(.var 5)]))]),
  .set (.nm 6) (.comp [4] (.nm 4) (.wlk (.var 2)) none (.idx (.idx (.var 0) (.var 4)) (.int 0))),
  .set (.nm 7) (.comp [4] (.nm 4) (.wlk (.var 2)) none (.idx (.idx (.var 0) (.var 4)) (.int 1))),
  .ret (.ife (.cmp .Eq (.var 1) (.con "FRONT" (.str "front"))) (.bin .Add (.bin .Add (.var 3) (.bi .minl [(.var 6)])) (.bi .sum [(.var 7)])) (.bin .Add (.bin .Add (.var 3) (.bi .sum [(.var 6)])) (.bi .minl [(.var 7)])))]
theorem sc_set_bound : FnScope ["rows", "side", "some", "others", "number", "row", "ones", "twos"] ["rows", "side", "some"] (defScope s_set_bound) := ⟨rfl, rfl, rfl, by decide +kernel, rfl, by decide +kernel, by decide +kernel⟩
theorem lk_set_bound : mtSs ["need_pairs", "is_set", .er "BadTasks"] cs ["rows", "side", "some", "others", "number", "row", "ones", "twos"] (defScope s_set_bound) ir_set_bound (defBody s_set_bound) = true := by decide +kernel
/-! span_of: slots 0=rows 1=one 2=two 3=ready 4=hour 5=number; callees 0=need_pairs 1=is_order 2=er:BadTasks -/
abbrev s_span_of : Stmt := top 32
def ir_span_of : List Sm := [
  .exp (.call 0 [(.var 0)]),
  .ife (.or (.not (.call 1 [(.var 1), (.bi .len [(.var 0)])])) (.not (.call 1 [(.var 2), (.bi .len [(.var 0)])]))) [.rai "BadTasks"] [],
  .set (.nm 3) .dct,
  .set (.nm 4) (.int 0),
  .for_ (.nm 5) (.wlk (.var 1)) [.set (.nm 4) (.bin .Add (.var 4) (.idx (.idx (.var 0) (.var 5)) (.int 0))), .sto (.var 3) (.var 5) (.var 4)],
  .set (.nm 4) (.int 0),
  .for_ (.nm 5) (.wlk (.var 2)) [.set (.nm 4) (.bin .Add (.bi .max2 [(.var 4), (.idx (.var 3) (.var 5))]) (.idx (.idx (.var 0) (.var 5)) (.int 1)))],
  .ret (.var 4)]
theorem sc_span_of : FnScope ["rows", "one", "two", "ready", "hour", "number"] ["rows", "one", "two"] (defScope s_span_of) := ⟨rfl, rfl, rfl, by decide +kernel, rfl, by decide +kernel, by decide +kernel⟩
theorem lk_span_of : mtSs ["need_pairs", "is_order", .er "BadTasks"] cs ["rows", "one", "two", "ready", "hour", "number"] (defScope s_span_of) ir_span_of (defBody s_span_of) = true := by decide +kernel
/-! _law_mixed: slots 0=_law_cell 1=_law_k 2=_law_number; callees  -/
abbrev s__law_mixed : Stmt := top 34
def ir__law_mixed : List Sm := [
  .set (.nm 2) (.bin .Mod (.bin .Mult (.bin .Add (.bin .Add (.bin .Mod (.var 0) (.int 1000000007)) (.bin .Mult (.bin .Mult (.int 31) (.var 1)) (.var 1))) (.int 7)) (.int 48271)) (.int 2147483647)),
  .ret (.bin .Mod (.bin .Mult (.var 2) (.bin .Add (.int 16807) (.bin .Mult (.int 7919) (.var 1)))) (.int 2147483629))]
theorem sc__law_mixed : FnScope ["_law_cell", "_law_k", "_law_number"] ["_law_cell", "_law_k"] (defScope s__law_mixed) := ⟨rfl, rfl, rfl, by decide +kernel, rfl, by decide +kernel, by decide +kernel⟩
theorem lk__law_mixed : mtSs [] cs ["_law_cell", "_law_k", "_law_number"] (defScope s__law_mixed) ir__law_mixed (defBody s__law_mixed) = true := by decide +kernel
/-! _law_draw: slots 0=_law_script 1=_law_k 2=_law_cell 3=_law_own 4=_law_turn; callees  -/
abbrev s__law_draw : Stmt := top 35
def ir__law_draw : List Sm := [
  .set (.nm 2) (.ife (.cmp .NotEq (.var 0) (.lst [])) (.idx (.var 0) (.bin .Mod (.var 1) (.bi .len [(.var 0)]))) (.int 0)),
  .set (.nm 3) (.ife (.cmp .GtE (.var 2) (.bin .Pow (.int 10) (.int 18))) (.var 2) (.int 0)),
  .for_ (.nm 4) (.rng1 (.bin .FloorDiv (.var 1) (.bi .max2 [(.int 1), (.bi .len [(.var 0)])]))) [.set (.nm 3) (.bin .FloorDiv (.var 3) (.bin .Pow (.int 10) (.int 18)))],
  .ret (.lst [(.var 2), (.bin .Mult (.int 64) (.var 1)), (.var 3)])]
theorem sc__law_draw : FnScope ["_law_script", "_law_k", "_law_cell", "_law_own", "_law_turn"] ["_law_script", "_law_k"] (defScope s__law_draw) := ⟨rfl, rfl, rfl, by decide +kernel, rfl, by decide +kernel, by decide +kernel⟩
theorem lk__law_draw : mtSs [] cs ["_law_script", "_law_k", "_law_cell", "_law_own", "_law_turn"] (defScope s__law_draw) ir__law_draw (defBody s__law_draw) = true := by decide +kernel
/-! _law_next: slots 0=_law_draw_here 1=_law_many 2=_law_found 3=_law_number; callees 0=_law_mixed -/
abbrev s__law_next : Stmt := top 36
def ir__law_next : List Sm := [
  .ife (.cmp .Gt (.idx (.var 0) (.int 2)) (.int 0)) [.set (.nm 2) (.bin .Mod (.idx (.var 0) (.int 2)) (.var 1)), .sto (.var 0) (.int 2) (.bin .FloorDiv (.idx (.var 0) (.int 2)) (.var 1)), .ret (.var 2)] [],
  .sto (.var 0) (.int 1) (.bin .Add (.idx (.var 0) (.int 1)) (.int 1)),
  .set (.nm 3) (.bin .Add (.bin .Mult (.call 0 [(.idx (.var 0) (.int 0)), (.idx (.var 0) (.int 1))]) (.int 2147483629)) (.call 0 [(.idx (.var 0) (.int 0)), (.bin .Add (.idx (.var 0) (.int 1)) (.int 9001))])),
  .ret (.bin .Mod (.bin .FloorDiv (.var 3) (.int 11)) (.var 1))]
theorem sc__law_next : FnScope ["_law_draw_here", "_law_many", "_law_found", "_law_number"] ["_law_draw_here", "_law_many"] (defScope s__law_next) := ⟨rfl, rfl, rfl, by decide +kernel, rfl, by decide +kernel, by decide +kernel⟩
theorem lk__law_next : mtSs ["_law_mixed"] cs ["_law_draw_here", "_law_many", "_law_found", "_law_number"] (defScope s__law_next) ir__law_next (defBody s__law_next) = true := by decide +kernel
/-! _law_rows: slots 0=_law_draw_here 1=_law_most 2=_law_bound 3=_law_found 4=_law_k; callees 0=_law_next -/
abbrev s__law_rows : Stmt := top 37
def ir__law_rows : List Sm := [
  .set (.nm 2) (.idx (.lst [(.int 3), (.int 9), (.int 1000)]) (.call 0 [(.var 0), (.int 3)])),
  .set (.nm 3) (.lst []),
  .for_ (.nm 4) (.rng1 (.bin .Add (.int 1) (.call 0 [(.var 0), (.var 1)]))) [.exp (.mi .append (.var 3) [(.tup [(.bin .Add (.int 1) (.call 0 [(.var 0), (.var 2)])), (.bin .Add (.int 1) (.call 0 [(.var 0), (.var 2)]))])])],
  .ret (.var 3)]
theorem sc__law_rows : FnScope ["_law_draw_here", "_law_most", "_law_bound", "_law_found", "_law_k"] ["_law_draw_here", "_law_most"] (defScope s__law_rows) := ⟨rfl, rfl, rfl, by decide +kernel, rfl, by decide +kernel, by decide +kernel⟩
theorem lk__law_rows : mtSs ["_law_next"] cs ["_law_draw_here", "_law_most", "_law_bound", "_law_found", "_law_k"] (defScope s__law_rows) ir__law_rows (defBody s__law_rows) = true := by decide +kernel
/-! _law_kind: slots 0=_law_error 1=_law_words 2=_law_found; callees 0=xs:BadRows,BadTasks:BadArcs,BadBook,BadDeed,BadLine,BadMost,BadPaper,BadPlan,BadRows,BadTasks,BadText,BadWorth,NoDeed,NoPlan,ValueError -/
abbrev s__law_kind : Stmt := top 38
def ir__law_kind : List Sm := [
  .set (.nm 1) (.lst [(.str "arcs"), (.str "book"), (.str "deed"), (.str "line"), (.str "most"), (.str "paper"), (.str "plan"), (.str "rows"), (.str "tasks"), (.str "text"), (.str "worth"), (.str "undo"), (.str "none")]),
  .set (.nm 2) (.lst [(.isx (.var 0) ["BadRows", "BadTasks"] "BadArcs"), (.isx (.var 0) ["BadRows", "BadTasks"] "BadBook"), (.isx (.var 0) ["BadRows", "BadTasks"] "BadDeed")]),
  .set (.nm 2) (.bin .Add (.var 2) (.lst [(.isx (.var 0) ["BadRows", "BadTasks"] "BadLine"), (.isx (.var 0) ["BadRows", "BadTasks"] "BadMost"), (.isx (.var 0) ["BadRows", "BadTasks"] "BadPaper")])),
  .set (.nm 2) (.bin .Add (.var 2) (.lst [(.isx (.var 0) ["BadRows", "BadTasks"] "BadPlan"), (.isx (.var 0) ["BadRows", "BadTasks"] "BadRows"), (.isx (.var 0) ["BadRows", "BadTasks"] "BadTasks")])),
  .set (.nm 2) (.bin .Add (.var 2) (.lst [(.isx (.var 0) ["BadRows", "BadTasks"] "BadText"), (.isx (.var 0) ["BadRows", "BadTasks"] "BadWorth"), (.isx (.var 0) ["BadRows", "BadTasks"] "NoDeed")])),
  .exp (.mi .append (.var 2) [(.isx (.var 0) ["BadRows", "BadTasks"] "NoPlan")]),
  .ife (.or (.cmp .NotEq (.mi .count (.var 2) [(.bl true)]) (.int 1)) (.not (.isx (.var 0) ["BadRows", "BadTasks"] "ValueError"))) [.ret (.str "other")] [],
  .ret (.idx (.var 1) (.mi .index (.var 2) [(.bl true)]))]
theorem sc__law_kind : FnScope ["_law_error", "_law_words", "_law_found"] ["_law_error"] (defScope s__law_kind) := ⟨rfl, rfl, rfl, by decide +kernel, rfl, by decide +kernel, by decide +kernel⟩
theorem lk__law_kind : mtSs [.xs ["BadRows", "BadTasks"] ["BadArcs", "BadBook", "BadDeed", "BadLine", "BadMost", "BadPaper", "BadPlan", "BadRows", "BadTasks", "BadText", "BadWorth", "NoDeed", "NoPlan", "ValueError"]] cs ["_law_error", "_law_words", "_law_found"] (defScope s__law_kind) ir__law_kind (defBody s__law_kind) = true := by decide +kernel
/-! _law_said: slots 0=_law_asked 1=_law_wrong 2=_law_found 3=e; callees 0=ac: 1=_law_kind 2=xs:BadRows,BadTasks:PlanError -/
abbrev s__law_said : Stmt := top 39
def ir__law_said : List Sm := [
  .set (.nm 1) .non,
  .set (.nm 2) .non,
  .tryk [.set (.nm 2) (.act 0)] ["BadRows", "BadTasks"] "PlanError" 3 1,
  .ret (.ife (.cmp .Is (.var 1) .non) (.lst [(.var 2)]) (.call 1 [(.var 1)]))]
theorem sc__law_said : FnScope ["_law_asked", "_law_wrong", "_law_found", "e"] ["_law_asked"] (defScope s__law_said) := ⟨rfl, rfl, rfl, by decide +kernel, rfl, by decide +kernel, by decide +kernel⟩
theorem lk__law_said : mtSs [.ac, "_law_kind", .xs ["BadRows", "BadTasks"] ["PlanError"]] cs ["_law_asked", "_law_wrong", "_law_found", "e"] (defScope s__law_said) ir__law_said (defBody s__law_said) = true := by decide +kernel
/-! _law_no_rows: slots 0=_law_rows_here 1=_law_draw_here 2=_law_at 3=_law_some 4=_law_way; callees 0=_law_next -/
abbrev s__law_no_rows : Stmt := top 40
def ir__law_no_rows : List Sm := [
  .set (.nm 2) (.call 0 [(.var 1), (.bi .len [(.var 0)])]),
  .set (.nm 3) (.lst [(.tup [(.int 0), (.int 1)]), (.tup [(.int 1), (.int 0)]), (.tup [(.int 1001), (.int 1)]), (.tup [(.int 1), (.int 1001)]), (.tup [(.bl true), (.int 1)]), (.tup [(.int 1), .non]), (.lst [(.int 1), (.int 1)]), (.tup [(.int 1)]), (.tup [(.int 1), (.int 1), (.int 1)]), .non, (.str "11"), (.int 5)]),
  .set (.nm 4) (.call 0 [(.var 1), (.int 20)]),
  .ife (.cmp .Lt (.var 4) (.int 12)) [.ret (.bin .Add (.bin .Add (.slc (.var 0) none (some (.var 2))) (.lst [(.idx (.var 3) (.var 4))])) (.slc (.var 0) (some (.bin .Add (.var 2) (.int 1))) none))] [],
  .ret (.idx (.lst [.non, (.int 5), .dct, (.str "rows"), (.bi .tuple [(.var 0)]), (.lst []), (.bin .Mult (.lst [(.tup [(.int 1), (.int 1)])]) (.int 31)), (.bl true)]) (.bin .Sub (.var 4) (.int 12)))]
theorem sc__law_no_rows : FnScope ["_law_rows_here", "_law_draw_here", "_law_at", "_law_some", "_law_way"] ["_law_rows_here", "_law_draw_here"] (defScope s__law_no_rows) := ⟨rfl, rfl, rfl, by decide +kernel, rfl, by decide +kernel, by decide +kernel⟩
theorem lk__law_no_rows : mtSs ["_law_next"] cs ["_law_rows_here", "_law_draw_here", "_law_at", "_law_some", "_law_way"] (defScope s__law_no_rows) ir__law_no_rows (defBody s__law_no_rows) = true := by decide +kernel
/-! _law_no_set: slots 0=_law_many 1=_law_draw_here 2=_law_some 3=_law_way 4=_law_at 5=_law_odd 6=_law_spoilt; callees 0=_law_next -/
abbrev s__law_no_set : Stmt := top 41
def ir__law_no_set : List Sm := [
  .set (.nm 2) (.lst [(.xtp []), (.lst [(.int 0)]), .non, (.int 0), (.tup [(.var 0)]), (.tup [(.neg (.int 1))]), (.tup [(.int 0), (.int 0)]), (.tup [(.bl true)]), (.tup [(.str "0")]), (.str "0"), .dct, (.tup [.non]), (.tup [(.int 0), (.var 0)])]),
  .par 3 4 (.call 0 [(.var 1), (.int 28)]) (.call 0 [(.var 1), (.var 0)]),
  .set (.nm 5) (.idx (.lst [(.var 0), (.neg (.int 1)), (.bl true), .non, (.str "0"), (.lst [(.int 0)]), (.bin .Pow (.int 10) (.int 30))]) (.call 0 [(.var 1), (.int 7)])),
  .set (.nm 6) (.bi .tuple [(.bin .Add (.bin .Add (.bi .listrange [(.var 4)]) (.lst [(.var 5)])) (.bi .listrange [(.var 4), (.var 0)]))]),
  .ret (.ife (.cmp .Lt (.var 3) (.int 14)) (.idx (.bin .Add (.var 2) (.lst [(.tup [(.int 1), (.int 0)])])) (.var 3)) (.var 6))]
theorem sc__law_no_set : FnScope ["_law_many", "_law_draw_here", "_law_some", "_law_way", "_law_at", "_law_odd", "_law_spoilt"] ["_law_many", "_law_draw_here"] (defScope s__law_no_set) := ⟨rfl, rfl, rfl, by decide +kernel, rfl, by decide +kernel, by decide +kernel⟩
theorem lk__law_no_set : mtSs ["_law_next"] cs ["_law_many", "_law_draw_here", "_law_some", "_law_way", "_law_at", "_law_odd", "_law_spoilt"] (defScope s__law_no_set) ir__law_no_set (defBody s__law_no_set) = true := by decide +kernel
/-! _law_no_order: slots 0=_law_many 1=_law_draw_here 2=_law_order 3=_law_some 4=_law_way 5=_law_at 6=_law_odd; callees 0=_law_next -/
abbrev s__law_no_order : Stmt := top 42
def ir__law_no_order : List Sm := [
  .set (.nm 2) (.bi .listrange [(.var 0)]),
  .set (.nm 3) (.lst [(.slc (.var 2) (some (.int 1)) none), (.bin .Add (.var 2) (.lst [(.int 0)])), (.bi .tuple [(.var 2)]), .non, (.int 0), .dct, (.str "0"), (.bin .Add (.slc (.var 2) none (some (.neg (.int 1)))) (.lst [(.var 0)])), (.bin .Add (.slc (.var 2) none (some (.neg (.int 1)))) (.lst [(.neg (.int 1))]))]),
  .set (.nm 3) (.bin .Add (.var 3) (.lst [(.bin .Add (.slc (.var 2) none (some (.neg (.int 1)))) (.lst [.non])), (.bin .Add (.slc (.var 2) none (some (.neg (.int 1)))) (.lst [(.str "0")])), (.bin .Add (.lst [(.bl false)]) (.slc (.var 2) (some (.int 1)) none)), (.bin .Add (.var 2) (.var 2)), (.lst [(.var 2)])])),
  .exp (.mi .append (.var 3) [(.ife (.cmp .Gt (.var 0) (.int 1)) (.bin .Add (.slc (.var 2) none (some (.neg (.int 1)))) (.lst [(.int 0)])) (.lst [(.int 1)]))]),
  .par 4 5 (.call 0 [(.var 1), (.int 30)]) (.call 0 [(.var 1), (.var 0)]),
  .set (.nm 6) (.idx (.lst [(.var 0), (.neg (.int 1)), (.bl true), .non, (.str "0"), (.lst [(.int 0)]), (.tup [(.int 0)]), (.bin .Pow (.int 10) (.int 30))]) (.call 0 [(.var 1), (.int 8)])),
  .ret (.ife (.cmp .Lt (.var 4) (.int 15)) (.idx (.var 3) (.var 4)) (.bin .Add (.bin .Add (.slc (.var 2) none (some (.var 5))) (.lst [(.var 6)])) (.slc (.var 2) (some (.bin .Add (.var 5) (.int 1))) none)))]
theorem sc__law_no_order : FnScope ["_law_many", "_law_draw_here", "_law_order", "_law_some", "_law_way", "_law_at", "_law_odd"] ["_law_many", "_law_draw_here"] (defScope s__law_no_order) := ⟨rfl, rfl, rfl, by decide +kernel, rfl, by decide +kernel, by decide +kernel⟩
theorem lk__law_no_order : mtSs ["_law_next"] cs ["_law_many", "_law_draw_here", "_law_order", "_law_some", "_law_way", "_law_at", "_law_odd"] (defScope s__law_no_order) ir__law_no_order (defBody s__law_no_order) = true := by decide +kernel
/-! law: slots 0=_law_script 1=_law_k 2=_law_rows_here 3=_law_many 4=_law_draw_here 5=_law_bad 6=_law_none 7=_law_odd 8=_law_good 9=_law_side 10=_law_asked 11=_law_one; callees 0=_law_rows 1=_law_draw 2=_law_no_rows 3=_law_no_set 4=_law_no_order 5=_law_next 6=tk: 7=ce: 8=least_span 9=set_bound 10=span_of 11=sa:_law_said -/
abbrev s_law : Stmt := top 43
def lams_law : List (PySem.Expr × PySem.Scope) := lamsOf 5 (defBody s_law)
def bs_law : List Ex := [(.call 8 [(.var 5)]), (.call 9 [(.var 5), (.var 9), (.var 6)]), (.call 10 [(.var 5), (.var 7), (.var 7)]), (.call 9 [(.var 2), (.var 9), (.tup [(.int 0)])]), (.call 9 [(.var 2), (.str "front"), (.var 6)]), (.call 9 [(.var 2), (.str "back"), (.var 6)]), (.call 10 [(.var 2), (.var 7), (.var 8)]), (.call 10 [(.var 2), (.var 8), (.var 7)]), (.call 8 [(.var 2)]), (.call 9 [(.var 2), (.str "back"), (.tup [(.bin .Sub (.var 3) (.int 1))])]), (.call 10 [(.var 2), (.var 8), (.rev (.var 8))])]
def ir_law : List Sm := [
  .for_ (.nm 1) (.rng1 (.bi .min2 [(.int 20), (.bin .Add (.int 2) (.bi .len [(.var 0)]))])) [.set (.nm 2) (.call 0 [(.call 1 [(.var 0), (.var 1)]), (.int 30)]), .set (.nm 3) (.bi .len [(.var 2)]), .set (.nm 4) (.call 1 [(.var 0), (.bin .Add (.int 20) (.var 1))]), .set (.tp [(.nm 5), (.nm 6), (.nm 7)]) (.tup [(.call 2 [(.var 2), (.var 4)]), (.call 3 [(.var 3), (.var 4)]), (.call 4 [(.var 3), (.var 4)])]), .set (.nm 8) (.bi .listrange [(.var 3)]), .set (.nm 9) (.idx (.lst [.non, (.str ""), (.str "Front"), (.str "side"), (.int 0), (.bl true), (.lst [(.str "front")]), (.tup [(.str "back")])]) (.call 5 [(.var 4), (.int 8)])), .set (.nm 10) (.lst [(.lmv 6 7 lams_law 0)]), .exp (.mi .append (.var 10) [(.lmv 6 7 lams_law 1)]), .exp (.mi .append (.var 10) [(.lmv 6 7 lams_law 2)]), .ife (.cmp .NotEq (.coms 11 6 7 11 10 lams_law bs_law false) (.bin .Mult (.lst [(.str "rows")]) (.int 3))) [.ret (.bl false)] [], .set (.nm 10) (.lst [(.lmv 6 7 lams_law 3)]), .exp (.mi .append (.var 10) [(.lmv 6 7 lams_law 4)]), .exp (.mi .append (.var 10) [(.lmv 6 7 lams_law 5)]), .exp (.mi .append (.var 10) [(.lmv 6 7 lams_law 6)]), .exp (.mi .append (.var 10) [(.lmv 6 7 lams_law 7)]), .ife (.cmp .NotEq (.coms 11 6 7 11 10 lams_law bs_law false) (.bin .Mult (.lst [(.str "tasks")]) (.int 5))) [.ret (.bl false)] [], .set (.nm 10) (.lst [(.lmv 6 7 lams_law 8)]), .exp (.mi .append (.var 10) [(.lmv 6 7 lams_law 9)]), .exp (.mi .append (.var 10) [(.lmv 6 7 lams_law 10)]), .ife (.not (.bi .all [(.coms 11 6 7 11 10 lams_law bs_law true)])) [.ret (.bl false)] []],
  .ret (.bl true)]
theorem sc_law : FnScope ["_law_script", "_law_k", "_law_rows_here", "_law_many", "_law_draw_here", "_law_bad", "_law_none", "_law_odd", "_law_good", "_law_side", "_law_asked", "_law_one"] ["_law_script"] (defScope s_law) := ⟨rfl, rfl, rfl, by decide +kernel, rfl, by decide +kernel, by decide +kernel⟩
theorem lk_law : mtSs ["_law_rows", "_law_draw", "_law_no_rows", "_law_no_set", "_law_no_order", "_law_next", .tk, .ce, "least_span", "set_bound", "span_of", .sa "_law_said"] cs ["_law_script", "_law_k", "_law_rows_here", "_law_many", "_law_draw_here", "_law_bad", "_law_none", "_law_odd", "_law_good", "_law_side", "_law_asked", "_law_one"] (defScope s_law) ir_law (defBody s_law) = true := by decide +kernel

end Law

namespace Law
open PySem Z
def sp_is_whole : Z.Spec := inl [] 1 1 ir_is_whole
theorem mt_is_whole : Meets [] 1 1 ir_is_whole sp_is_whole := mt_inl
def sp_is_among : Z.Spec := inl [sp_is_whole] 3 3 ir_is_among
theorem mt_is_among : Meets [sp_is_whole] 3 3 ir_is_among sp_is_among := mt_inl
theorem among_int {i lo hi : Int} {h : Hep} {F : KQ} {E : KX} (h1 : lo ≤ i) (h2 : i ≤ hi) (k : F (.bl true) h) : sp_is_among [.int i, .int lo, .int hi] h F E := by
  unfold sp_is_among sp_is_whole
  simp (maxSteps := 2000000) only [wSs, inW, dsetW, tixW, isWt, wComp, wFor, wSs_nil, wS, wE, wEs, wO, wC, wI, binW, binI, cmpW, truW, itemW, sliceW, revW, stpW, xtW, storeW, biW_1, biW_2, biW_3, biW_4, biW_5, biW_6, biW_7, biW_8, biW_9, biW_10, biW_11, biW_12, biW_13, biW_14, biW_15, biW_16, biW_17, biW_18, biW_19, biW_20, biW_21, biW_22, biW_23, biW_24, biW_25, biW_26, biW_27, biW_28, biW_29, biW_30, biW_31, biW_32, biW_33, biW_34, biW_35, biW_36, biW_37, biW_38, biW_39, biW_40, biW_41, biW_42, biW_43, biW_44, isT, isxW, isxsW, miW_1, miW_2, miW_3, miW_4, miW_5, miW_6, miW_7, miW_8, miW_9, miW_10, miW_11, isL, getL, getD, listW, seqW, walkW, fldW, insW, stfW, getO, putZ, pairW, dgetW, isD, smW, isS, tgt, tgts, wipeZ, grdOk, eqW_int, enter, List.map_cons, List.map_nil, List.length_cons, List.length_nil, List.replicate_succ, List.replicate_zero, Nat.add_sub_cancel, Nat.sub_self, Nat.zero_add, List.cons_append, List.nil_append, List.getElem?_cons_zero, List.getElem?_cons_succ, List.set_cons_zero, List.set_cons_succ, if_true, if_false, ite_true, ite_false, Bool.not_true, Bool.not_false, Bool.true_eq_false, Bool.false_eq_true, true_and, and_true, reduceCtorEq, Option.some.injEq, false_and, and_false, false_or, or_false, true_or, or_true, Nat.reduceAdd, Nat.reduceSub, List.isEmpty_cons, List.isEmpty_nil, beq_self_eq_true, decide_true, decide_false, Bool.false_or, Bool.true_or, Bool.or_false, Bool.or_true, Bool.and_true, Bool.and_false, Bool.true_and, Bool.false_and, reduceIte, dite_true, dite_false, beq_iff_eq, decide_eq_true_eq, bne_iff_ne, ixN_int, Int.reduceLE, Int.reduceLT, Int.reduceNeg, Int.reduceToNat, Int.cast_ofNat_Int, exists_and_left, exists_eq_left', exists_eq_left, exists_eq', not_true_eq_false, not_false_eq_true, Int.toNat_natCast, Nat.reduceLT, Nat.reduceLeDiff, ne_eq, big, Nat.zero_le, List.length_map, List.getElem?_map, Option.map_some, Option.map_none, Int.reducePow, Nat.reducePow, inl, ir_is_among, ir_is_whole, beq_self_eq_true, h1, h2]
  exact k
def GoodRow (p : Int × Int) : Prop := 1 ≤ p.1 ∧ p.1 ≤ 1000 ∧ 1 ≤ p.2 ∧ p.2 ≤ 1000
end Law

/-! k45pa: what a refusal is told by (printed by k45_gen.py); said; lambdas held in lists, a sayer called with each -/
namespace Law
open PySem Z Com
def rowsX : XV := ⟨"BadRows", []⟩
def tasksX : XV := ⟨"BadTasks", []⟩
theorem kind_rows : Meets [noS] 3 1 ir__law_kind (fun args h F _ => args = [keptV rowsX] ∧ ∀ h', Ext h h' → F (.str "rows") h') := by
  rintro args h F E ⟨rfl, kf⟩
  refine ⟨rfl, ?_⟩
  unfold ir__law_kind
  have m : ("BadRows" : Str) ∈ [("BadRows" : Str), "BadTasks"] := by decide
  have ev : subX "BadRows" "ValueError" = true := by decide +kernel
  have e0 : subX "BadRows" "BadArcs" = false := by decide +kernel
  have e1 : subX "BadRows" "BadBook" = false := by decide +kernel
  have e2 : subX "BadRows" "BadDeed" = false := by decide +kernel
  have e3 : subX "BadRows" "BadLine" = false := by decide +kernel
  have e4 : subX "BadRows" "BadMost" = false := by decide +kernel
  have e5 : subX "BadRows" "BadPaper" = false := by decide +kernel
  have e6 : subX "BadRows" "BadPlan" = false := by decide +kernel
  have e7 : subX "BadRows" "BadRows" = true := by decide +kernel
  have e8 : subX "BadRows" "BadTasks" = false := by decide +kernel
  have e9 : subX "BadRows" "BadText" = false := by decide +kernel
  have e10 : subX "BadRows" "BadWorth" = false := by decide +kernel
  have e11 : subX "BadRows" "NoDeed" = false := by decide +kernel
  have e12 : subX "BadRows" "NoPlan" = false := by decide +kernel
  generalize q0 : subX "BadRows" "BadArcs" = b0 at *
  generalize q1 : subX "BadRows" "BadBook" = b1 at *
  generalize q2 : subX "BadRows" "BadDeed" = b2 at *
  generalize q3 : subX "BadRows" "BadLine" = b3 at *
  generalize q4 : subX "BadRows" "BadMost" = b4 at *
  generalize q5 : subX "BadRows" "BadPaper" = b5 at *
  generalize q6 : subX "BadRows" "BadPlan" = b6 at *
  generalize q7 : subX "BadRows" "BadRows" = b7 at *
  generalize q8 : subX "BadRows" "BadTasks" = b8 at *
  generalize q9 : subX "BadRows" "BadText" = b9 at *
  generalize q10 : subX "BadRows" "BadWorth" = b10 at *
  generalize q11 : subX "BadRows" "NoDeed" = b11 at *
  generalize q12 : subX "BadRows" "NoPlan" = b12 at *
  have ek : keptV rowsX = .exc "BadRows" [] [] := rfl
  rw [ek]
  show wSs _ _ [some _, none, none] h _
  refine wSs_step ?_; simp_arith []
  have g1 := new_get (h := h) (o := Ob.lst [PV.str "arcs", PV.str "book", PV.str "deed", PV.str "line", PV.str "most", PV.str "paper", PV.str "plan", PV.str "rows", PV.str "tasks", PV.str "text", PV.str "worth", PV.str "undo", PV.str "none"])
  have x1 := Ext.app (h := h) (j := [Ob.lst [PV.str "arcs", PV.str "book", PV.str "deed", PV.str "line", PV.str "most", PV.str "paper", PV.str "plan", PV.str "rows", PV.str "tasks", PV.str "text", PV.str "worth", PV.str "undo", PV.str "none"]])
  generalize h ++ [Ob.lst [PV.str "arcs", PV.str "book", PV.str "deed", PV.str "line", PV.str "most", PV.str "paper", PV.str "plan", PV.str "rows", PV.str "tasks", PV.str "text", PV.str "worth", PV.str "undo", PV.str "none"]] = h1 at *
  generalize h.length = r1 at *
  refine wSs_step ?_; simp_arith [m, q0, q1, q2]
  have g2 := new_get (h := h1) (o := Ob.lst [PV.bl b0, PV.bl b1, PV.bl b2])
  have g1 := app_get (j := [Ob.lst [PV.bl b0, PV.bl b1, PV.bl b2]]) g1
  have x2 := x1.trans (Ext.app (j := [Ob.lst [PV.bl b0, PV.bl b1, PV.bl b2]]))
  generalize h1 ++ [Ob.lst [PV.bl b0, PV.bl b1, PV.bl b2]] = h2 at *
  generalize h1.length = r2 at *
  refine wSs_step ?_; simp_arith [m, q3, q4, q5, app_get g2, new_get]
  have g3 := new_get (h := h2 ++ [Ob.lst [PV.bl b3, PV.bl b4, PV.bl b5]]) (o := Ob.lst [PV.bl b0, PV.bl b1, PV.bl b2, PV.bl b3, PV.bl b4, PV.bl b5])
  have g1 := app_get (j := [Ob.lst [PV.bl b0, PV.bl b1, PV.bl b2, PV.bl b3, PV.bl b4, PV.bl b5]]) (app_get (j := [Ob.lst [PV.bl b3, PV.bl b4, PV.bl b5]]) g1)
  have x3 := x2.trans (Ext.app.trans (Ext.app (h := h2 ++ [Ob.lst [PV.bl b3, PV.bl b4, PV.bl b5]]) (j := [Ob.lst [PV.bl b0, PV.bl b1, PV.bl b2, PV.bl b3, PV.bl b4, PV.bl b5]])))
  generalize (h2 ++ [Ob.lst [PV.bl b3, PV.bl b4, PV.bl b5]]).length = r3 at *
  generalize h2 ++ [Ob.lst [PV.bl b3, PV.bl b4, PV.bl b5]] ++ [Ob.lst [PV.bl b0, PV.bl b1, PV.bl b2, PV.bl b3, PV.bl b4, PV.bl b5]] = h3 at *
  refine wSs_step ?_; simp_arith [m, q6, q7, q8, app_get g3, new_get]
  have g4 := new_get (h := h3 ++ [Ob.lst [PV.bl b6, PV.bl b7, PV.bl b8]]) (o := Ob.lst [PV.bl b0, PV.bl b1, PV.bl b2, PV.bl b3, PV.bl b4, PV.bl b5, PV.bl b6, PV.bl b7, PV.bl b8])
  have g1 := app_get (j := [Ob.lst [PV.bl b0, PV.bl b1, PV.bl b2, PV.bl b3, PV.bl b4, PV.bl b5, PV.bl b6, PV.bl b7, PV.bl b8]]) (app_get (j := [Ob.lst [PV.bl b6, PV.bl b7, PV.bl b8]]) g1)
  have x4 := x3.trans (Ext.app.trans (Ext.app (h := h3 ++ [Ob.lst [PV.bl b6, PV.bl b7, PV.bl b8]]) (j := [Ob.lst [PV.bl b0, PV.bl b1, PV.bl b2, PV.bl b3, PV.bl b4, PV.bl b5, PV.bl b6, PV.bl b7, PV.bl b8]])))
  generalize (h3 ++ [Ob.lst [PV.bl b6, PV.bl b7, PV.bl b8]]).length = r4 at *
  generalize h3 ++ [Ob.lst [PV.bl b6, PV.bl b7, PV.bl b8]] ++ [Ob.lst [PV.bl b0, PV.bl b1, PV.bl b2, PV.bl b3, PV.bl b4, PV.bl b5, PV.bl b6, PV.bl b7, PV.bl b8]] = h4 at *
  refine wSs_step ?_; simp_arith [m, q9, q10, q11, app_get g4, new_get]
  have g5 := new_get (h := h4 ++ [Ob.lst [PV.bl b9, PV.bl b10, PV.bl b11]]) (o := Ob.lst [PV.bl b0, PV.bl b1, PV.bl b2, PV.bl b3, PV.bl b4, PV.bl b5, PV.bl b6, PV.bl b7, PV.bl b8, PV.bl b9, PV.bl b10, PV.bl b11])
  have g1 := app_get (j := [Ob.lst [PV.bl b0, PV.bl b1, PV.bl b2, PV.bl b3, PV.bl b4, PV.bl b5, PV.bl b6, PV.bl b7, PV.bl b8, PV.bl b9, PV.bl b10, PV.bl b11]]) (app_get (j := [Ob.lst [PV.bl b9, PV.bl b10, PV.bl b11]]) g1)
  have x5 := x4.trans (Ext.app.trans (Ext.app (h := h4 ++ [Ob.lst [PV.bl b9, PV.bl b10, PV.bl b11]]) (j := [Ob.lst [PV.bl b0, PV.bl b1, PV.bl b2, PV.bl b3, PV.bl b4, PV.bl b5, PV.bl b6, PV.bl b7, PV.bl b8, PV.bl b9, PV.bl b10, PV.bl b11]])))
  have hl : h.length ≤ (h4 ++ [Ob.lst [PV.bl b9, PV.bl b10, PV.bl b11]]).length := by have := x4.len; rw [List.length_append]; omega
  generalize (h4 ++ [Ob.lst [PV.bl b9, PV.bl b10, PV.bl b11]]).length = r5 at *
  generalize h4 ++ [Ob.lst [PV.bl b9, PV.bl b10, PV.bl b11]] ++ [Ob.lst [PV.bl b0, PV.bl b1, PV.bl b2, PV.bl b3, PV.bl b4, PV.bl b5, PV.bl b6, PV.bl b7, PV.bl b8, PV.bl b9, PV.bl b10, PV.bl b11]] = h5 at *
  have rn : r1 ≠ r5 := fun z => by rw [z] at g1; rw [g5] at g1; cases g1
  refine wSs_step ?_; simp_arith [m, q12, g5]
  have g6 := set_get (o' := Ob.lst [PV.bl b0, PV.bl b1, PV.bl b2, PV.bl b3, PV.bl b4, PV.bl b5, PV.bl b6, PV.bl b7, PV.bl b8, PV.bl b9, PV.bl b10, PV.bl b11, PV.bl b12]) g5
  have g1 := (List.getElem?_set_ne (l := h5) (Ne.symm rn) (a := Ob.lst [PV.bl b0, PV.bl b1, PV.bl b2, PV.bl b3, PV.bl b4, PV.bl b5, PV.bl b6, PV.bl b7, PV.bl b8, PV.bl b9, PV.bl b10, PV.bl b11, PV.bl b12])).trans g1
  have x6 : Ext h (h5.set r5 (Ob.lst [PV.bl b0, PV.bl b1, PV.bl b2, PV.bl b3, PV.bl b4, PV.bl b5, PV.bl b6, PV.bl b7, PV.bl b8, PV.bl b9, PV.bl b10, PV.bl b11, PV.bl b12])) := ExtB.ext x5 .set hl
  generalize h5.set r5 (Ob.lst [PV.bl b0, PV.bl b1, PV.bl b2, PV.bl b3, PV.bl b4, PV.bl b5, PV.bl b6, PV.bl b7, PV.bl b8, PV.bl b9, PV.bl b10, PV.bl b11, PV.bl b12]) = h6 at *
  subst e0
  subst e1
  subst e2
  subst e3
  subst e4
  subst e5
  subst e6
  subst e7
  subst e8
  subst e9
  subst e10
  subst e11
  subst e12
  refine wSs_step ?_; simp_arith [g6]
  refine ⟨.bool true, rfl, rfl, _, rfl, rfl, ?_⟩
  rw [if_neg (by decide +kernel)]
  refine ⟨m, ?_⟩
  rw [ev, if_neg (by decide)]
  refine wSs_step ?_; simp_arith [g1, g6]
  refine ⟨.bool true, rfl, rfl, _, rfl, rfl, 7, .bool true, rfl, by decide +kernel, fun m z' lt e => ?_, 7, rfl, _, rfl, kf _ x6⟩
  match m, lt, e with
  | 0, _, e => cases e; rfl
  | 1, _, e => cases e; rfl
  | 2, _, e => cases e; rfl
  | 3, _, e => cases e; rfl
  | 4, _, e => cases e; rfl
  | 5, _, e => cases e; rfl
  | 6, _, e => cases e; rfl
  | n + 7, l, _ => omega

theorem kind_tasks : Meets [noS] 3 1 ir__law_kind (fun args h F _ => args = [keptV tasksX] ∧ ∀ h', Ext h h' → F (.str "tasks") h') := by
  rintro args h F E ⟨rfl, kf⟩
  refine ⟨rfl, ?_⟩
  unfold ir__law_kind
  have m : ("BadTasks" : Str) ∈ [("BadRows" : Str), "BadTasks"] := by decide
  have ev : subX "BadTasks" "ValueError" = true := by decide +kernel
  have e0 : subX "BadTasks" "BadArcs" = false := by decide +kernel
  have e1 : subX "BadTasks" "BadBook" = false := by decide +kernel
  have e2 : subX "BadTasks" "BadDeed" = false := by decide +kernel
  have e3 : subX "BadTasks" "BadLine" = false := by decide +kernel
  have e4 : subX "BadTasks" "BadMost" = false := by decide +kernel
  have e5 : subX "BadTasks" "BadPaper" = false := by decide +kernel
  have e6 : subX "BadTasks" "BadPlan" = false := by decide +kernel
  have e7 : subX "BadTasks" "BadRows" = false := by decide +kernel
  have e8 : subX "BadTasks" "BadTasks" = true := by decide +kernel
  have e9 : subX "BadTasks" "BadText" = false := by decide +kernel
  have e10 : subX "BadTasks" "BadWorth" = false := by decide +kernel
  have e11 : subX "BadTasks" "NoDeed" = false := by decide +kernel
  have e12 : subX "BadTasks" "NoPlan" = false := by decide +kernel
  generalize q0 : subX "BadTasks" "BadArcs" = b0 at *
  generalize q1 : subX "BadTasks" "BadBook" = b1 at *
  generalize q2 : subX "BadTasks" "BadDeed" = b2 at *
  generalize q3 : subX "BadTasks" "BadLine" = b3 at *
  generalize q4 : subX "BadTasks" "BadMost" = b4 at *
  generalize q5 : subX "BadTasks" "BadPaper" = b5 at *
  generalize q6 : subX "BadTasks" "BadPlan" = b6 at *
  generalize q7 : subX "BadTasks" "BadRows" = b7 at *
  generalize q8 : subX "BadTasks" "BadTasks" = b8 at *
  generalize q9 : subX "BadTasks" "BadText" = b9 at *
  generalize q10 : subX "BadTasks" "BadWorth" = b10 at *
  generalize q11 : subX "BadTasks" "NoDeed" = b11 at *
  generalize q12 : subX "BadTasks" "NoPlan" = b12 at *
  have ek : keptV tasksX = .exc "BadTasks" [] [] := rfl
  rw [ek]
  show wSs _ _ [some _, none, none] h _
  refine wSs_step ?_; simp_arith []
  have g1 := new_get (h := h) (o := Ob.lst [PV.str "arcs", PV.str "book", PV.str "deed", PV.str "line", PV.str "most", PV.str "paper", PV.str "plan", PV.str "rows", PV.str "tasks", PV.str "text", PV.str "worth", PV.str "undo", PV.str "none"])
  have x1 := Ext.app (h := h) (j := [Ob.lst [PV.str "arcs", PV.str "book", PV.str "deed", PV.str "line", PV.str "most", PV.str "paper", PV.str "plan", PV.str "rows", PV.str "tasks", PV.str "text", PV.str "worth", PV.str "undo", PV.str "none"]])
  generalize h ++ [Ob.lst [PV.str "arcs", PV.str "book", PV.str "deed", PV.str "line", PV.str "most", PV.str "paper", PV.str "plan", PV.str "rows", PV.str "tasks", PV.str "text", PV.str "worth", PV.str "undo", PV.str "none"]] = h1 at *
  generalize h.length = r1 at *
  refine wSs_step ?_; simp_arith [m, q0, q1, q2]
  have g2 := new_get (h := h1) (o := Ob.lst [PV.bl b0, PV.bl b1, PV.bl b2])
  have g1 := app_get (j := [Ob.lst [PV.bl b0, PV.bl b1, PV.bl b2]]) g1
  have x2 := x1.trans (Ext.app (j := [Ob.lst [PV.bl b0, PV.bl b1, PV.bl b2]]))
  generalize h1 ++ [Ob.lst [PV.bl b0, PV.bl b1, PV.bl b2]] = h2 at *
  generalize h1.length = r2 at *
  refine wSs_step ?_; simp_arith [m, q3, q4, q5, app_get g2, new_get]
  have g3 := new_get (h := h2 ++ [Ob.lst [PV.bl b3, PV.bl b4, PV.bl b5]]) (o := Ob.lst [PV.bl b0, PV.bl b1, PV.bl b2, PV.bl b3, PV.bl b4, PV.bl b5])
  have g1 := app_get (j := [Ob.lst [PV.bl b0, PV.bl b1, PV.bl b2, PV.bl b3, PV.bl b4, PV.bl b5]]) (app_get (j := [Ob.lst [PV.bl b3, PV.bl b4, PV.bl b5]]) g1)
  have x3 := x2.trans (Ext.app.trans (Ext.app (h := h2 ++ [Ob.lst [PV.bl b3, PV.bl b4, PV.bl b5]]) (j := [Ob.lst [PV.bl b0, PV.bl b1, PV.bl b2, PV.bl b3, PV.bl b4, PV.bl b5]])))
  generalize (h2 ++ [Ob.lst [PV.bl b3, PV.bl b4, PV.bl b5]]).length = r3 at *
  generalize h2 ++ [Ob.lst [PV.bl b3, PV.bl b4, PV.bl b5]] ++ [Ob.lst [PV.bl b0, PV.bl b1, PV.bl b2, PV.bl b3, PV.bl b4, PV.bl b5]] = h3 at *
  refine wSs_step ?_; simp_arith [m, q6, q7, q8, app_get g3, new_get]
  have g4 := new_get (h := h3 ++ [Ob.lst [PV.bl b6, PV.bl b7, PV.bl b8]]) (o := Ob.lst [PV.bl b0, PV.bl b1, PV.bl b2, PV.bl b3, PV.bl b4, PV.bl b5, PV.bl b6, PV.bl b7, PV.bl b8])
  have g1 := app_get (j := [Ob.lst [PV.bl b0, PV.bl b1, PV.bl b2, PV.bl b3, PV.bl b4, PV.bl b5, PV.bl b6, PV.bl b7, PV.bl b8]]) (app_get (j := [Ob.lst [PV.bl b6, PV.bl b7, PV.bl b8]]) g1)
  have x4 := x3.trans (Ext.app.trans (Ext.app (h := h3 ++ [Ob.lst [PV.bl b6, PV.bl b7, PV.bl b8]]) (j := [Ob.lst [PV.bl b0, PV.bl b1, PV.bl b2, PV.bl b3, PV.bl b4, PV.bl b5, PV.bl b6, PV.bl b7, PV.bl b8]])))
  generalize (h3 ++ [Ob.lst [PV.bl b6, PV.bl b7, PV.bl b8]]).length = r4 at *
  generalize h3 ++ [Ob.lst [PV.bl b6, PV.bl b7, PV.bl b8]] ++ [Ob.lst [PV.bl b0, PV.bl b1, PV.bl b2, PV.bl b3, PV.bl b4, PV.bl b5, PV.bl b6, PV.bl b7, PV.bl b8]] = h4 at *
  refine wSs_step ?_; simp_arith [m, q9, q10, q11, app_get g4, new_get]
  have g5 := new_get (h := h4 ++ [Ob.lst [PV.bl b9, PV.bl b10, PV.bl b11]]) (o := Ob.lst [PV.bl b0, PV.bl b1, PV.bl b2, PV.bl b3, PV.bl b4, PV.bl b5, PV.bl b6, PV.bl b7, PV.bl b8, PV.bl b9, PV.bl b10, PV.bl b11])
  have g1 := app_get (j := [Ob.lst [PV.bl b0, PV.bl b1, PV.bl b2, PV.bl b3, PV.bl b4, PV.bl b5, PV.bl b6, PV.bl b7, PV.bl b8, PV.bl b9, PV.bl b10, PV.bl b11]]) (app_get (j := [Ob.lst [PV.bl b9, PV.bl b10, PV.bl b11]]) g1)
  have x5 := x4.trans (Ext.app.trans (Ext.app (h := h4 ++ [Ob.lst [PV.bl b9, PV.bl b10, PV.bl b11]]) (j := [Ob.lst [PV.bl b0, PV.bl b1, PV.bl b2, PV.bl b3, PV.bl b4, PV.bl b5, PV.bl b6, PV.bl b7, PV.bl b8, PV.bl b9, PV.bl b10, PV.bl b11]])))
  have hl : h.length ≤ (h4 ++ [Ob.lst [PV.bl b9, PV.bl b10, PV.bl b11]]).length := by have := x4.len; rw [List.length_append]; omega
  generalize (h4 ++ [Ob.lst [PV.bl b9, PV.bl b10, PV.bl b11]]).length = r5 at *
  generalize h4 ++ [Ob.lst [PV.bl b9, PV.bl b10, PV.bl b11]] ++ [Ob.lst [PV.bl b0, PV.bl b1, PV.bl b2, PV.bl b3, PV.bl b4, PV.bl b5, PV.bl b6, PV.bl b7, PV.bl b8, PV.bl b9, PV.bl b10, PV.bl b11]] = h5 at *
  have rn : r1 ≠ r5 := fun z => by rw [z] at g1; rw [g5] at g1; cases g1
  refine wSs_step ?_; simp_arith [m, q12, g5]
  have g6 := set_get (o' := Ob.lst [PV.bl b0, PV.bl b1, PV.bl b2, PV.bl b3, PV.bl b4, PV.bl b5, PV.bl b6, PV.bl b7, PV.bl b8, PV.bl b9, PV.bl b10, PV.bl b11, PV.bl b12]) g5
  have g1 := (List.getElem?_set_ne (l := h5) (Ne.symm rn) (a := Ob.lst [PV.bl b0, PV.bl b1, PV.bl b2, PV.bl b3, PV.bl b4, PV.bl b5, PV.bl b6, PV.bl b7, PV.bl b8, PV.bl b9, PV.bl b10, PV.bl b11, PV.bl b12])).trans g1
  have x6 : Ext h (h5.set r5 (Ob.lst [PV.bl b0, PV.bl b1, PV.bl b2, PV.bl b3, PV.bl b4, PV.bl b5, PV.bl b6, PV.bl b7, PV.bl b8, PV.bl b9, PV.bl b10, PV.bl b11, PV.bl b12])) := ExtB.ext x5 .set hl
  generalize h5.set r5 (Ob.lst [PV.bl b0, PV.bl b1, PV.bl b2, PV.bl b3, PV.bl b4, PV.bl b5, PV.bl b6, PV.bl b7, PV.bl b8, PV.bl b9, PV.bl b10, PV.bl b11, PV.bl b12]) = h6 at *
  subst e0
  subst e1
  subst e2
  subst e3
  subst e4
  subst e5
  subst e6
  subst e7
  subst e8
  subst e9
  subst e10
  subst e11
  subst e12
  refine wSs_step ?_; simp_arith [g6]
  refine ⟨.bool true, rfl, rfl, _, rfl, rfl, ?_⟩
  rw [if_neg (by decide +kernel)]
  refine ⟨m, ?_⟩
  rw [ev, if_neg (by decide)]
  refine wSs_step ?_; simp_arith [g1, g6]
  refine ⟨.bool true, rfl, rfl, _, rfl, rfl, 8, .bool true, rfl, by decide +kernel, fun m z' lt e => ?_, 8, rfl, _, rfl, kf _ x6⟩
  match m, lt, e with
  | 0, _, e => cases e; rfl
  | 1, _, e => cases e; rfl
  | 2, _, e => cases e; rfl
  | 3, _, e => cases e; rfl
  | 4, _, e => cases e; rfl
  | 5, _, e => cases e; rfl
  | 6, _, e => cases e; rfl
  | 7, _, e => cases e; rfl
  | n + 8, l, _ => omega
def sp__law_kind : Z.Spec := fun args h F _ => (args = [keptV rowsX] ∧ ∀ h', Ext h h' → F (.str "rows") h') ∨ (args = [keptV tasksX] ∧ ∀ h', Ext h h' → F (.str "tasks") h')
theorem mt__law_kind : Meets [noS] 3 1 ir__law_kind sp__law_kind := by
  rintro args h F E (w | w)
  · exact kind_rows args h F E w
  · exact kind_tasks args h F E w
def sp__law_said : Z.Spec := fun args h F _ => (∃ v, args = [.bl true, v] ∧ ∀ (r : Nat) (h' : Hep), Ext h h' → h'[r]? = some (.lst [v]) → F (.ref r) h') ∨ (args = [.bl false, keptV rowsX] ∧ ∀ h', Ext h h' → F (.str "rows") h') ∨ (args = [.bl false, keptV tasksX] ∧ ∀ h', Ext h h' → F (.str "tasks") h')
theorem kept_inj {x y : XV} (ey : y.fs = []) (e : keptV x = keptV y) : x = y := by
  obtain ⟨cl, fs⟩ := x
  obtain ⟨cl2, fs2⟩ := y
  cases ey
  have e : PV.exc cl (fs.map (·.1)) (fs.map (·.2)) = .exc cl2 [] [] := e
  injection e with e1 e2 e3
  subst e1
  obtain rfl : fs = [] := List.map_eq_nil_iff.mp e2
  rfl
theorem mt__law_said : ∀ z h0 F0, Meets [actS z h0 sp__law_said F0, sp__law_kind, noS] 4 1 ir__law_said (fun args h F _ => args = [z] ∧ h = h0 ∧ F = F0) := by
  rintro z h0 F0 args h F E ⟨rfl, rfl, rfl⟩
  refine ⟨rfl, ?_⟩
  unfold ir__law_said
  show wSs _ _ [some _, none, none, none] h _
  refine wSs_step ?_; simp_arith []
  refine wSs_step ?_; simp_arith []
  refine wSs_step ?_
  simp only [wS]
  refine wSs_step ?_; simp_arith []
  refine ⟨rfl, rfl, fun v h' q => ?_, fun x h' q => ?_⟩
  · have kf : ∀ (r : Nat) (h'' : Hep), Ext h' h'' → h''[r]? = some (.lst [v]) → F (.ref r) h'' := by
      rcases q with ⟨v', e, q⟩ | ⟨e, _⟩ | ⟨e, _⟩
      · cases e
        exact q
      · cases e
      · cases e
    refine wSs_step ?_; simp_arith []
    exact kf _ _ .app new_get
  · rcases q with ⟨v', e, _⟩ | ⟨e, kf⟩ | ⟨e, kf⟩
    · cases e
    · injection e with _ e
      injection e with e _
      obtain rfl := kept_inj rfl e
      refine ⟨by decide, ?_⟩
      rw [if_pos (by decide +kernel)]
      rw [show keptV rowsX = .exc "BadRows" [] [] from rfl]
      refine wSs_step ?_; simp_arith []
      exact .inl ⟨rfl, kf⟩
    · injection e with _ e
      injection e with e _
      obtain rfl := kept_inj rfl e
      refine ⟨by decide, ?_⟩
      rw [if_pos (by decide +kernel)]
      rw [show keptV tasksX = .exc "BadTasks" [] [] from rfl]
      refine wSs_step ?_; simp_arith []
      exact .inr ⟨rfl, kf⟩
/-! ### lambdas in a list -/
abbrev Lams := List (PySem.Expr × PySem.Scope)
/-- what a lambda's answer is, told by the sayer -/
def LamAns (Γ : List Z.Spec) (i : Nat) (bs : List Ex) (tl : Bool) (σ : Z.Env) (n : Nat) (a : PV) (h : Hep) : Prop := ∃ Sa, Γ[i]? = some Sa ∧ ∀ (h1 : Hep) (G : KQ), Ext h h1 → (∀ h2, Ext h1 h2 → G a h2) → wN Γ bs n σ h1 (fun v h2 => Sa [.bl true, v] h2 (comsK tl G) noX) fun x h2 => Sa [.bl false, keptV x] h2 (comsK tl G) noX
def comE (Γ : List Z.Spec) (i m p : Nat) (ds : Lams) (bs : List Ex) (tl : Bool) (σ : Z.Env) (σ' : Z.Env) (h' : Hep) (G : KQ) : Prop := match σ'[p]?, Γ[i]?, Γ[m]? with
  | some (some (.lam ds' n q cl)), some Sa, some S => ds' = ds ∧ S [.lam ds n ("" : Str) []] h' (fun w _ => w = .lam ds n q cl ∧ wN Γ bs n σ h' (fun v h2 => Sa [.bl true, v] h2 (comsK tl G) noX) fun y h2 => Sa [.bl false, keptV y] h2 (comsK tl G) noX) noX
  | _, _, _ => False
theorem comE_ok {Γ : List Z.Spec} {σ σ' : Z.Env} {h : Hep} {i m p n : Nat} {ds : Lams} {bs : List Ex} {tl : Bool} {q : Str} {cl : List (Str × Addr)} {G : KQ} {Sa : Z.Spec} (em : Γ[m]? = some (cellS q cl)) (ei : Γ[i]? = some Sa) (eg : σ'[p]? = some (some (.lam ds n q cl)))
    (w : wN Γ bs n σ h (fun v h2 => Sa [.bl true, v] h2 (comsK tl G) noX) fun y h2 => Sa [.bl false, keptV y] h2 (comsK tl G) noX) : comE Γ i m p ds bs tl σ σ' h G := by
  unfold comE
  rw [eg, ei, em]
  exact ⟨rfl, ds, n, rfl, rfl, w⟩
theorem coms_go {Γ : List Z.Spec} {σ : Z.Env} {h0 : Hep} {i m p r : Nat} {ds : Lams} {bs : List Ex} {tl : Bool} {q : Str} {cl : List (Str × Addr)} {xs : List PV} {F : List PV → Hep → Prop} (em : Γ[m]? = some (cellS q cl)) (lp : p < σ.length) (er : h0[r]? = some (.lst xs)) :
    ∀ (ns : List Nat) (as acc : List PV) (h : Hep), Ext h0 h → ns.length = as.length → acc.length + ns.length < 1000 → (∀ (j n : Nat) (a : PV), ns[j]? = some n → as[j]? = some a → LamAns Γ i bs tl σ n a h0) → (∀ h', Ext h0 h' → F (acc ++ as) h') →
      wComp [(r, .lst xs)] (.nm p) (fun _ h' G => G true h') (comE Γ i m p ds bs tl σ) (wipeZ σ [p]) (ns.map fun n => .lam ds n q cl) acc h F
  | [], [], acc, h, X, _, _, _, k => ⟨⟨X _ _ er, trivial⟩, by have := k h X; rw [List.append_nil] at this; exact this⟩
  | n :: ns, a :: as, acc, h, X, l, lb, w, k => by
    obtain ⟨Sa, ei, w0⟩ := w 0 n a rfl rfl
    rw [List.map_cons, wComp]
    refine ⟨⟨X _ _ er, trivial⟩, ?_⟩
    have es : tgt (.nm p) (PV.lam ds n q cl) (wipeZ σ [p]) = some ((wipeZ σ [p]).set p (some (.lam ds n q cl))) := rfl
    rw [es]
    dsimp only
    rw [if_pos rfl]
    have eg : ((wipeZ σ [p]).set p (some (PV.lam ds n q cl)))[p]? = some (some (.lam ds n q cl)) := by
      rw [List.getElem?_set_self]
      show p < ((σ.set p none)).length
      rw [List.length_set]
      exact lp
    refine comE_ok em ei eg (w0 h _ X fun h2 X2 => ⟨by show acc.length < 16777216; rw [List.length_cons] at lb; omega, ?_⟩)
    refine coms_go em lp er ns as (acc ++ [a]) h2 (X.trans X2) (by simpa using l) (by rw [List.length_append, List.length_singleton]; rw [List.length_cons] at lb; omega) (fun j n' a' e1 e2 => w (j + 1) n' a' (by simpa using e1) (by simpa using e2)) fun h' X' => ?_
    rw [List.append_assoc]
    exact k h' X'
  | [], _ :: _, _, _, _, l, _, _, _ => by cases l
  | _ :: _, [], _, _, _, l, _, _, _ => by cases l
theorem coms_ok {Γ : List Z.Spec} {σ : Z.Env} {h : Hep} {i j m p k r : Nat} {ds : Lams} {bs : List Ex} {tl : Bool} {q : Str} {cl : List (Str × Addr)} {ns : List Nat} {as : List PV} {F : KQ} {E : KX} (ek : σ[k]? = some (some (.ref r))) (er : h[r]? = some (.lst (ns.map fun n => .lam ds n q cl))) (em : Γ[m]? = some (cellS q cl)) (lp : p < σ.length)
    (l : ns.length = as.length) (lb : ns.length < 1000) (w : ∀ (j n : Nat) (a : PV), ns[j]? = some n → as[j]? = some a → LamAns Γ i bs tl σ n a h) (kf : ∀ (r : Nat) (h' : Hep), Ext h h' → h'[r]? = some (.lst as) → F (.ref r) h') : Z.wE Γ (.coms i j m p k ds bs tl) σ h F E := by
  rw [wE, ek]
  show getL h r fun items => wComp [(r, .lst items)] (.nm p) (fun _ h' G => G true h') (comE Γ i m p ds bs tl σ) (wipeZ σ [p]) items [] h fun acc h2 => F (.ref h2.length) (h2 ++ [.lst acc])
  unfold getL
  rw [er]
  refine coms_go em lp er ns as [] h .rfl' l (by simpa using lb) w fun h' X => ?_
  rw [List.nil_append]
  exact kf _ _ (X.trans .app) new_get
end Law


/-! k45pb: things that may be no lengths, no machines; lengths wanted -/
namespace Law
open PySem Z Com
def IsLD : Ob → Prop
  | .lst _ => True | .dic _ => True | _ => False
/-- a thing that may be asked for its kind, now and later -/
def Thg (h : Hep) : PV → Prop
  | .non => True | .bl _ => True | .int _ => True | .str _ => True | .itp _ => True | .tup _ => True
  | .ref r => ∃ o, h[r]? = some o ∧ IsLD o
  | _ => False
theorem Thg.ext {h h' : Hep} {x : PV} (t : Thg h x) (X : Ext h h') : Thg h' x := by
  cases x <;> first | trivial | exact t | skip
  obtain ⟨o, e, l⟩ := t
  exact ⟨o, X _ _ e, l⟩
def amV (lo hi : Int) : PV → Bool
  | .int i => decide (lo ≤ i) && decide (i ≤ hi)
  | _ => false
theorem am_any {x : PV} {lo hi : Int} {h : Hep} {F : KQ} {E : KX} (t : Thg h x) (k : F (.bl (amV lo hi x)) h) : sp_is_among [x, .int lo, .int hi] h F E := by
  unfold sp_is_among sp_is_whole
  cases x with
  | non => simp (maxSteps := 2000000) only [wSs, inW, dsetW, tixW, isWt, wComp, wFor, wSs_nil, wS, wE, wEs, wO, wC, wI, binW, binI, cmpW, truW, itemW, sliceW, revW, stpW, xtW, storeW, biW_1, biW_2, biW_3, biW_4, biW_5, biW_6, biW_7, biW_8, biW_9, biW_10, biW_11, biW_12, biW_13, biW_14, biW_15, biW_16, biW_17, biW_18, biW_19, biW_20, biW_21, biW_22, biW_23, biW_24, biW_25, biW_26, biW_27, biW_28, biW_29, biW_30, biW_31, biW_32, biW_33, biW_34, biW_35, biW_36, biW_37, biW_38, biW_39, biW_40, biW_41, biW_42, biW_43, biW_44, isT, isxW, isxsW, miW_1, miW_2, miW_3, miW_4, miW_5, miW_6, miW_7, miW_8, miW_9, miW_10, miW_11, isL, getL, getD, listW, seqW, walkW, fldW, insW, stfW, getO, putZ, pairW, dgetW, isD, smW, isS, tgt, tgts, wipeZ, grdOk, eqW_int, enter, List.map_cons, List.map_nil, List.length_cons, List.length_nil, List.replicate_succ, List.replicate_zero, Nat.add_sub_cancel, Nat.sub_self, Nat.zero_add, List.cons_append, List.nil_append, List.getElem?_cons_zero, List.getElem?_cons_succ, List.set_cons_zero, List.set_cons_succ, if_true, if_false, ite_true, ite_false, Bool.not_true, Bool.not_false, Bool.true_eq_false, Bool.false_eq_true, true_and, and_true, reduceCtorEq, Option.some.injEq, false_and, and_false, false_or, or_false, true_or, or_true, Nat.reduceAdd, Nat.reduceSub, List.isEmpty_cons, List.isEmpty_nil, beq_self_eq_true, decide_true, decide_false, Bool.false_or, Bool.true_or, Bool.or_false, Bool.or_true, Bool.and_true, Bool.and_false, Bool.true_and, Bool.false_and, reduceIte, dite_true, dite_false, beq_iff_eq, decide_eq_true_eq, bne_iff_ne, ixN_int, Int.reduceLE, Int.reduceLT, Int.reduceNeg, Int.reduceToNat, Int.cast_ofNat_Int, exists_and_left, exists_eq_left', exists_eq_left, exists_eq', not_true_eq_false, not_false_eq_true, Int.toNat_natCast, Nat.reduceLT, Nat.reduceLeDiff, ne_eq, big, Nat.zero_le, List.length_map, List.getElem?_map, Option.map_some, Option.map_none, Int.reducePow, Nat.reducePow, inl, ir_is_among, ir_is_whole]; exact k
  | bl b => simp (maxSteps := 2000000) only [wSs, inW, dsetW, tixW, isWt, wComp, wFor, wSs_nil, wS, wE, wEs, wO, wC, wI, binW, binI, cmpW, truW, itemW, sliceW, revW, stpW, xtW, storeW, biW_1, biW_2, biW_3, biW_4, biW_5, biW_6, biW_7, biW_8, biW_9, biW_10, biW_11, biW_12, biW_13, biW_14, biW_15, biW_16, biW_17, biW_18, biW_19, biW_20, biW_21, biW_22, biW_23, biW_24, biW_25, biW_26, biW_27, biW_28, biW_29, biW_30, biW_31, biW_32, biW_33, biW_34, biW_35, biW_36, biW_37, biW_38, biW_39, biW_40, biW_41, biW_42, biW_43, biW_44, isT, isxW, isxsW, miW_1, miW_2, miW_3, miW_4, miW_5, miW_6, miW_7, miW_8, miW_9, miW_10, miW_11, isL, getL, getD, listW, seqW, walkW, fldW, insW, stfW, getO, putZ, pairW, dgetW, isD, smW, isS, tgt, tgts, wipeZ, grdOk, eqW_int, enter, List.map_cons, List.map_nil, List.length_cons, List.length_nil, List.replicate_succ, List.replicate_zero, Nat.add_sub_cancel, Nat.sub_self, Nat.zero_add, List.cons_append, List.nil_append, List.getElem?_cons_zero, List.getElem?_cons_succ, List.set_cons_zero, List.set_cons_succ, if_true, if_false, ite_true, ite_false, Bool.not_true, Bool.not_false, Bool.true_eq_false, Bool.false_eq_true, true_and, and_true, reduceCtorEq, Option.some.injEq, false_and, and_false, false_or, or_false, true_or, or_true, Nat.reduceAdd, Nat.reduceSub, List.isEmpty_cons, List.isEmpty_nil, beq_self_eq_true, decide_true, decide_false, Bool.false_or, Bool.true_or, Bool.or_false, Bool.or_true, Bool.and_true, Bool.and_false, Bool.true_and, Bool.false_and, reduceIte, dite_true, dite_false, beq_iff_eq, decide_eq_true_eq, bne_iff_ne, ixN_int, Int.reduceLE, Int.reduceLT, Int.reduceNeg, Int.reduceToNat, Int.cast_ofNat_Int, exists_and_left, exists_eq_left', exists_eq_left, exists_eq', not_true_eq_false, not_false_eq_true, Int.toNat_natCast, Nat.reduceLT, Nat.reduceLeDiff, ne_eq, big, Nat.zero_le, List.length_map, List.getElem?_map, Option.map_some, Option.map_none, Int.reducePow, Nat.reducePow, inl, ir_is_among, ir_is_whole]; exact k
  | str s => simp (maxSteps := 2000000) only [wSs, inW, dsetW, tixW, isWt, wComp, wFor, wSs_nil, wS, wE, wEs, wO, wC, wI, binW, binI, cmpW, truW, itemW, sliceW, revW, stpW, xtW, storeW, biW_1, biW_2, biW_3, biW_4, biW_5, biW_6, biW_7, biW_8, biW_9, biW_10, biW_11, biW_12, biW_13, biW_14, biW_15, biW_16, biW_17, biW_18, biW_19, biW_20, biW_21, biW_22, biW_23, biW_24, biW_25, biW_26, biW_27, biW_28, biW_29, biW_30, biW_31, biW_32, biW_33, biW_34, biW_35, biW_36, biW_37, biW_38, biW_39, biW_40, biW_41, biW_42, biW_43, biW_44, isT, isxW, isxsW, miW_1, miW_2, miW_3, miW_4, miW_5, miW_6, miW_7, miW_8, miW_9, miW_10, miW_11, isL, getL, getD, listW, seqW, walkW, fldW, insW, stfW, getO, putZ, pairW, dgetW, isD, smW, isS, tgt, tgts, wipeZ, grdOk, eqW_int, enter, List.map_cons, List.map_nil, List.length_cons, List.length_nil, List.replicate_succ, List.replicate_zero, Nat.add_sub_cancel, Nat.sub_self, Nat.zero_add, List.cons_append, List.nil_append, List.getElem?_cons_zero, List.getElem?_cons_succ, List.set_cons_zero, List.set_cons_succ, if_true, if_false, ite_true, ite_false, Bool.not_true, Bool.not_false, Bool.true_eq_false, Bool.false_eq_true, true_and, and_true, reduceCtorEq, Option.some.injEq, false_and, and_false, false_or, or_false, true_or, or_true, Nat.reduceAdd, Nat.reduceSub, List.isEmpty_cons, List.isEmpty_nil, beq_self_eq_true, decide_true, decide_false, Bool.false_or, Bool.true_or, Bool.or_false, Bool.or_true, Bool.and_true, Bool.and_false, Bool.true_and, Bool.false_and, reduceIte, dite_true, dite_false, beq_iff_eq, decide_eq_true_eq, bne_iff_ne, ixN_int, Int.reduceLE, Int.reduceLT, Int.reduceNeg, Int.reduceToNat, Int.cast_ofNat_Int, exists_and_left, exists_eq_left', exists_eq_left, exists_eq', not_true_eq_false, not_false_eq_true, Int.toNat_natCast, Nat.reduceLT, Nat.reduceLeDiff, ne_eq, big, Nat.zero_le, List.length_map, List.getElem?_map, Option.map_some, Option.map_none, Int.reducePow, Nat.reducePow, inl, ir_is_among, ir_is_whole]; exact k
  | itp xs => simp (maxSteps := 2000000) only [wSs, inW, dsetW, tixW, isWt, wComp, wFor, wSs_nil, wS, wE, wEs, wO, wC, wI, binW, binI, cmpW, truW, itemW, sliceW, revW, stpW, xtW, storeW, biW_1, biW_2, biW_3, biW_4, biW_5, biW_6, biW_7, biW_8, biW_9, biW_10, biW_11, biW_12, biW_13, biW_14, biW_15, biW_16, biW_17, biW_18, biW_19, biW_20, biW_21, biW_22, biW_23, biW_24, biW_25, biW_26, biW_27, biW_28, biW_29, biW_30, biW_31, biW_32, biW_33, biW_34, biW_35, biW_36, biW_37, biW_38, biW_39, biW_40, biW_41, biW_42, biW_43, biW_44, isT, isxW, isxsW, miW_1, miW_2, miW_3, miW_4, miW_5, miW_6, miW_7, miW_8, miW_9, miW_10, miW_11, isL, getL, getD, listW, seqW, walkW, fldW, insW, stfW, getO, putZ, pairW, dgetW, isD, smW, isS, tgt, tgts, wipeZ, grdOk, eqW_int, enter, List.map_cons, List.map_nil, List.length_cons, List.length_nil, List.replicate_succ, List.replicate_zero, Nat.add_sub_cancel, Nat.sub_self, Nat.zero_add, List.cons_append, List.nil_append, List.getElem?_cons_zero, List.getElem?_cons_succ, List.set_cons_zero, List.set_cons_succ, if_true, if_false, ite_true, ite_false, Bool.not_true, Bool.not_false, Bool.true_eq_false, Bool.false_eq_true, true_and, and_true, reduceCtorEq, Option.some.injEq, false_and, and_false, false_or, or_false, true_or, or_true, Nat.reduceAdd, Nat.reduceSub, List.isEmpty_cons, List.isEmpty_nil, beq_self_eq_true, decide_true, decide_false, Bool.false_or, Bool.true_or, Bool.or_false, Bool.or_true, Bool.and_true, Bool.and_false, Bool.true_and, Bool.false_and, reduceIte, dite_true, dite_false, beq_iff_eq, decide_eq_true_eq, bne_iff_ne, ixN_int, Int.reduceLE, Int.reduceLT, Int.reduceNeg, Int.reduceToNat, Int.cast_ofNat_Int, exists_and_left, exists_eq_left', exists_eq_left, exists_eq', not_true_eq_false, not_false_eq_true, Int.toNat_natCast, Nat.reduceLT, Nat.reduceLeDiff, ne_eq, big, Nat.zero_le, List.length_map, List.getElem?_map, Option.map_some, Option.map_none, Int.reducePow, Nat.reducePow, inl, ir_is_among, ir_is_whole]; exact k
  | tup xs => simp (maxSteps := 2000000) only [wSs, inW, dsetW, tixW, isWt, wComp, wFor, wSs_nil, wS, wE, wEs, wO, wC, wI, binW, binI, cmpW, truW, itemW, sliceW, revW, stpW, xtW, storeW, biW_1, biW_2, biW_3, biW_4, biW_5, biW_6, biW_7, biW_8, biW_9, biW_10, biW_11, biW_12, biW_13, biW_14, biW_15, biW_16, biW_17, biW_18, biW_19, biW_20, biW_21, biW_22, biW_23, biW_24, biW_25, biW_26, biW_27, biW_28, biW_29, biW_30, biW_31, biW_32, biW_33, biW_34, biW_35, biW_36, biW_37, biW_38, biW_39, biW_40, biW_41, biW_42, biW_43, biW_44, isT, isxW, isxsW, miW_1, miW_2, miW_3, miW_4, miW_5, miW_6, miW_7, miW_8, miW_9, miW_10, miW_11, isL, getL, getD, listW, seqW, walkW, fldW, insW, stfW, getO, putZ, pairW, dgetW, isD, smW, isS, tgt, tgts, wipeZ, grdOk, eqW_int, enter, List.map_cons, List.map_nil, List.length_cons, List.length_nil, List.replicate_succ, List.replicate_zero, Nat.add_sub_cancel, Nat.sub_self, Nat.zero_add, List.cons_append, List.nil_append, List.getElem?_cons_zero, List.getElem?_cons_succ, List.set_cons_zero, List.set_cons_succ, if_true, if_false, ite_true, ite_false, Bool.not_true, Bool.not_false, Bool.true_eq_false, Bool.false_eq_true, true_and, and_true, reduceCtorEq, Option.some.injEq, false_and, and_false, false_or, or_false, true_or, or_true, Nat.reduceAdd, Nat.reduceSub, List.isEmpty_cons, List.isEmpty_nil, beq_self_eq_true, decide_true, decide_false, Bool.false_or, Bool.true_or, Bool.or_false, Bool.or_true, Bool.and_true, Bool.and_false, Bool.true_and, Bool.false_and, reduceIte, dite_true, dite_false, beq_iff_eq, decide_eq_true_eq, bne_iff_ne, ixN_int, Int.reduceLE, Int.reduceLT, Int.reduceNeg, Int.reduceToNat, Int.cast_ofNat_Int, exists_and_left, exists_eq_left', exists_eq_left, exists_eq', not_true_eq_false, not_false_eq_true, Int.toNat_natCast, Nat.reduceLT, Nat.reduceLeDiff, ne_eq, big, Nat.zero_le, List.length_map, List.getElem?_map, Option.map_some, Option.map_none, Int.reducePow, Nat.reducePow, inl, ir_is_among, ir_is_whole]; exact k
  | int i =>
    simp (maxSteps := 2000000) only [wSs, inW, dsetW, tixW, isWt, wComp, wFor, wSs_nil, wS, wE, wEs, wO, wC, wI, binW, binI, cmpW, truW, itemW, sliceW, revW, stpW, xtW, storeW, biW_1, biW_2, biW_3, biW_4, biW_5, biW_6, biW_7, biW_8, biW_9, biW_10, biW_11, biW_12, biW_13, biW_14, biW_15, biW_16, biW_17, biW_18, biW_19, biW_20, biW_21, biW_22, biW_23, biW_24, biW_25, biW_26, biW_27, biW_28, biW_29, biW_30, biW_31, biW_32, biW_33, biW_34, biW_35, biW_36, biW_37, biW_38, biW_39, biW_40, biW_41, biW_42, biW_43, biW_44, isT, isxW, isxsW, miW_1, miW_2, miW_3, miW_4, miW_5, miW_6, miW_7, miW_8, miW_9, miW_10, miW_11, isL, getL, getD, listW, seqW, walkW, fldW, insW, stfW, getO, putZ, pairW, dgetW, isD, smW, isS, tgt, tgts, wipeZ, grdOk, eqW_int, enter, List.map_cons, List.map_nil, List.length_cons, List.length_nil, List.replicate_succ, List.replicate_zero, Nat.add_sub_cancel, Nat.sub_self, Nat.zero_add, List.cons_append, List.nil_append, List.getElem?_cons_zero, List.getElem?_cons_succ, List.set_cons_zero, List.set_cons_succ, if_true, if_false, ite_true, ite_false, Bool.not_true, Bool.not_false, Bool.true_eq_false, Bool.false_eq_true, true_and, and_true, reduceCtorEq, Option.some.injEq, false_and, and_false, false_or, or_false, true_or, or_true, Nat.reduceAdd, Nat.reduceSub, List.isEmpty_cons, List.isEmpty_nil, beq_self_eq_true, decide_true, decide_false, Bool.false_or, Bool.true_or, Bool.or_false, Bool.or_true, Bool.and_true, Bool.and_false, Bool.true_and, Bool.false_and, reduceIte, dite_true, dite_false, beq_iff_eq, decide_eq_true_eq, bne_iff_ne, ixN_int, Int.reduceLE, Int.reduceLT, Int.reduceNeg, Int.reduceToNat, Int.cast_ofNat_Int, exists_and_left, exists_eq_left', exists_eq_left, exists_eq', not_true_eq_false, not_false_eq_true, Int.toNat_natCast, Nat.reduceLT, Nat.reduceLeDiff, ne_eq, big, Nat.zero_le, List.length_map, List.getElem?_map, Option.map_some, Option.map_none, Int.reducePow, Nat.reducePow, inl, ir_is_among, ir_is_whole]
    by_cases c : lo ≤ i
    · have e : amV lo hi (.int i) = decide (i ≤ hi) := by show (decide (lo ≤ i) && decide (i ≤ hi)) = _; rw [decide_eq_true c]; rfl
      rw [e] at k
      simp_arith [c]
      exact k
    · have e : amV lo hi (.int i) = false := by show (decide (lo ≤ i) && decide (i ≤ hi)) = _; rw [decide_eq_false c]; rfl
      rw [e] at k
      simp_arith [c]
      exact k
  | ref r =>
    obtain ⟨o, e, l⟩ := t
    cases o with
    | lst xs => simp (maxSteps := 2000000) only [wSs, inW, dsetW, tixW, isWt, wComp, wFor, wSs_nil, wS, wE, wEs, wO, wC, wI, binW, binI, cmpW, truW, itemW, sliceW, revW, stpW, xtW, storeW, biW_1, biW_2, biW_3, biW_4, biW_5, biW_6, biW_7, biW_8, biW_9, biW_10, biW_11, biW_12, biW_13, biW_14, biW_15, biW_16, biW_17, biW_18, biW_19, biW_20, biW_21, biW_22, biW_23, biW_24, biW_25, biW_26, biW_27, biW_28, biW_29, biW_30, biW_31, biW_32, biW_33, biW_34, biW_35, biW_36, biW_37, biW_38, biW_39, biW_40, biW_41, biW_42, biW_43, biW_44, isT, isxW, isxsW, miW_1, miW_2, miW_3, miW_4, miW_5, miW_6, miW_7, miW_8, miW_9, miW_10, miW_11, isL, getL, getD, listW, seqW, walkW, fldW, insW, stfW, getO, putZ, pairW, dgetW, isD, smW, isS, tgt, tgts, wipeZ, grdOk, eqW_int, enter, List.map_cons, List.map_nil, List.length_cons, List.length_nil, List.replicate_succ, List.replicate_zero, Nat.add_sub_cancel, Nat.sub_self, Nat.zero_add, List.cons_append, List.nil_append, List.getElem?_cons_zero, List.getElem?_cons_succ, List.set_cons_zero, List.set_cons_succ, if_true, if_false, ite_true, ite_false, Bool.not_true, Bool.not_false, Bool.true_eq_false, Bool.false_eq_true, true_and, and_true, reduceCtorEq, Option.some.injEq, false_and, and_false, false_or, or_false, true_or, or_true, Nat.reduceAdd, Nat.reduceSub, List.isEmpty_cons, List.isEmpty_nil, beq_self_eq_true, decide_true, decide_false, Bool.false_or, Bool.true_or, Bool.or_false, Bool.or_true, Bool.and_true, Bool.and_false, Bool.true_and, Bool.false_and, reduceIte, dite_true, dite_false, beq_iff_eq, decide_eq_true_eq, bne_iff_ne, ixN_int, Int.reduceLE, Int.reduceLT, Int.reduceNeg, Int.reduceToNat, Int.cast_ofNat_Int, exists_and_left, exists_eq_left', exists_eq_left, exists_eq', not_true_eq_false, not_false_eq_true, Int.toNat_natCast, Nat.reduceLT, Nat.reduceLeDiff, ne_eq, big, Nat.zero_le, List.length_map, List.getElem?_map, Option.map_some, Option.map_none, Int.reducePow, Nat.reducePow, inl, ir_is_among, ir_is_whole, e]; exact k
    | dic xs => simp (maxSteps := 2000000) only [wSs, inW, dsetW, tixW, isWt, wComp, wFor, wSs_nil, wS, wE, wEs, wO, wC, wI, binW, binI, cmpW, truW, itemW, sliceW, revW, stpW, xtW, storeW, biW_1, biW_2, biW_3, biW_4, biW_5, biW_6, biW_7, biW_8, biW_9, biW_10, biW_11, biW_12, biW_13, biW_14, biW_15, biW_16, biW_17, biW_18, biW_19, biW_20, biW_21, biW_22, biW_23, biW_24, biW_25, biW_26, biW_27, biW_28, biW_29, biW_30, biW_31, biW_32, biW_33, biW_34, biW_35, biW_36, biW_37, biW_38, biW_39, biW_40, biW_41, biW_42, biW_43, biW_44, isT, isxW, isxsW, miW_1, miW_2, miW_3, miW_4, miW_5, miW_6, miW_7, miW_8, miW_9, miW_10, miW_11, isL, getL, getD, listW, seqW, walkW, fldW, insW, stfW, getO, putZ, pairW, dgetW, isD, smW, isS, tgt, tgts, wipeZ, grdOk, eqW_int, enter, List.map_cons, List.map_nil, List.length_cons, List.length_nil, List.replicate_succ, List.replicate_zero, Nat.add_sub_cancel, Nat.sub_self, Nat.zero_add, List.cons_append, List.nil_append, List.getElem?_cons_zero, List.getElem?_cons_succ, List.set_cons_zero, List.set_cons_succ, if_true, if_false, ite_true, ite_false, Bool.not_true, Bool.not_false, Bool.true_eq_false, Bool.false_eq_true, true_and, and_true, reduceCtorEq, Option.some.injEq, false_and, and_false, false_or, or_false, true_or, or_true, Nat.reduceAdd, Nat.reduceSub, List.isEmpty_cons, List.isEmpty_nil, beq_self_eq_true, decide_true, decide_false, Bool.false_or, Bool.true_or, Bool.or_false, Bool.or_true, Bool.and_true, Bool.and_false, Bool.true_and, Bool.false_and, reduceIte, dite_true, dite_false, beq_iff_eq, decide_eq_true_eq, bne_iff_ne, ixN_int, Int.reduceLE, Int.reduceLT, Int.reduceNeg, Int.reduceToNat, Int.cast_ofNat_Int, exists_and_left, exists_eq_left', exists_eq_left, exists_eq', not_true_eq_false, not_false_eq_true, Int.toNat_natCast, Nat.reduceLT, Nat.reduceLeDiff, ne_eq, big, Nat.zero_le, List.length_map, List.getElem?_map, Option.map_some, Option.map_none, Int.reducePow, Nat.reducePow, inl, ir_is_among, ir_is_whole, e]; exact k
    | _ => exact l.elim
  | _ => exact t.elim
end Law

/-! k42qa: pairs, orders: of anything -/
namespace Law
open PySem Z Com
/-- what stands in a tuple that may be no pair -/
def ImT : PV → Prop
  | .non => True | .bl _ => True | .int _ => True | .str _ => True | _ => False
theorem ImT.thg {h : Hep} {x : PV} (t : ImT x) : Thg h x := by
  cases x <;> first | trivial | exact t.elim
def PT (h : Hep) : PV → Prop
  | .non => True | .bl _ => True | .int _ => True | .str _ => True
  | .ref r => ∃ xs, h[r]? = some (.lst xs)
  | .tup ys => ∀ y ∈ ys, ImT y
  | _ => False
theorem PT.ext {h h' : Hep} {x : PV} (t : PT h x) (X : Ext h h') : PT h' x := by
  cases x <;> first | trivial | exact t | skip
  obtain ⟨xs, e⟩ := t
  exact ⟨xs, X _ _ e⟩
def isP : PV → Bool
  | .tup [x, y] => amV 1 1000 x && amV 1 1000 y
  | _ => false
theorem am_in {i lo hi : Int} (h1 : lo ≤ i) (h2 : i ≤ hi) : amV lo hi (.int i) = true := by
  show (decide (lo ≤ i) && decide (i ≤ hi)) = true
  rw [decide_eq_true h1, decide_eq_true h2]
  rfl
theorem isP_good {p : Int × Int} (g : GoodRow p) : isP (pairV p) = true := by
  show (amV 1 1000 (.int p.1) && amV 1 1000 (.int p.2)) = true
  rw [am_in g.1 g.2.1, am_in g.2.2.1 g.2.2.2]
  rfl
def sp_is_pair : Z.Spec := fun args h F _ => ∃ v, args = [v] ∧ PT h v ∧ ∀ h', Ext h h' → F (.bl (isP v)) h'
theorem mt_is_pair : Meets [sp_is_among] 2 1 ir_is_pair sp_is_pair := by
  rintro args h F E ⟨v, rfl, t, kf⟩
  refine ⟨rfl, ?_⟩
  unfold ir_is_pair
  show wSs _ _ [some _, none] h _
  have k0 := kf h .rfl'
  cases v with
  | non => refine wSs_step ?_; simp_arith []; exact k0
  | bl => refine wSs_step ?_; simp_arith []; exact k0
  | int => refine wSs_step ?_; simp_arith []; exact k0
  | str => refine wSs_step ?_; simp_arith []; exact k0
  | ref r =>
    obtain ⟨xs, e⟩ := t
    refine wSs_step ?_; simp_arith [e]
    exact k0
  | tup ys =>
    match ys, t, kf, k0 with
    | [], t, kf, k0 => refine wSs_step ?_; simp_arith []; exact k0
    | [x], t, kf, k0 => refine wSs_step ?_; simp_arith []; exact k0
    | [x, y], t, kf, k0 =>
      refine wSs_step ?_; simp_arith []
      refine wSs_step ?_; simp_arith []
      refine am_any (ImT.thg (t x (by simp))) ?_
      try simp_arith []
      refine am_any (ImT.thg (t y (by simp))) ?_
      try simp_arith []
      simp_arith [new_get, boolsOf]
      have e : (amV 1 1000 x && amV 1 1000 y) = isP (.tup [x, y]) := rfl
      simp_arith [List.all_cons, List.all_nil, id]
      rw [e]
      exact kf _ .app
    | x :: y :: z :: r, t, kf, k0 =>
      have c : (((x :: y :: z :: r).length : Int) == 2) = false := by
        rw [beq_eq_false_iff_ne, List.length_cons, List.length_cons, List.length_cons]
        omega
      generalize hL : x :: y :: z :: r = L at *
      refine wSs_step ?_; simp_arith [c]
      rw [← hL] at k0 ⊢
      exact k0
  | _ => exact t.elim
/-! ### rows -/
def NoListT (h : Hep) : PV → Prop
  | .non => True | .bl _ => True | .int _ => True | .str _ => True | .tup _ => True | .itp _ => True
  | .ref r => ∃ kvs, h[r]? = some (.dic kvs)
  | _ => False
theorem NoListT.ext {h h' : Hep} {v : PV} (b : NoListT h v) (X : Ext h h') : NoListT h' v := by
  cases v <;> first | trivial | exact b | skip
  obtain ⟨k, e⟩ := b
  exact ⟨k, X _ _ e⟩
def BadR (h : Hep) (v : PV) : Prop := NoListT h v ∨ ∃ (r : Nat) (xs : List PV), v = .ref r ∧ h[r]? = some (.lst xs) ∧ xs.length ≤ 1000 ∧ (∀ x ∈ xs, PT h x) ∧ (xs.length = 0 ∨ 30 < xs.length ∨ ∃ x ∈ xs, isP x = false)
theorem BadR.ext {h h' : Hep} {v : PV} (b : BadR h v) (X : Ext h h') : BadR h' v := by
  rcases b with b | ⟨r, xs, e, er, l, t, c⟩
  · exact .inl (b.ext X)
  · exact .inr ⟨r, xs, e, X _ _ er, l, fun x m => (t x m).ext X, c⟩
def gp_need_pairs : Z.Spec := fun args h F _ => ∃ (r : Nat) (rows : List (Int × Int)), args = [.ref r] ∧ h[r]? = some (.lst (rows.map pairV)) ∧ 1 ≤ rows.length ∧ rows.length ≤ 30 ∧ (∀ p ∈ rows, GoodRow p) ∧ ∀ h', Ext h h' → F .non h'
def sp_need_pairs : Z.Spec := fun args h F E => gp_need_pairs args h F E ∨ ∃ v, args = [v] ∧ BadR h v ∧ ∀ h', Ext h h' → E rowsX h'
theorem NP {args : List PV} {h : Hep} {F : KQ} {E : KX} (x : gp_need_pairs args h F E) : sp_need_pairs args h F E := .inl x
theorem bools_of {f : PV → Bool} : ∀ xs : List PV, boolsOf (xs.map fun x => PV.bl (f x)) = some (xs.map f)
  | [] => rfl
  | x :: xs => by
    show (boolsOf (xs.map fun x => PV.bl (f x))).map (f x :: ·) = _
    rw [bools_of xs]
    rfl
theorem all_no {f : PV → Bool} {xs : List PV} {x : PV} (m : x ∈ xs) (e : f x = false) : (xs.map f).all id = false := by
  rw [List.all_eq_false]
  exact ⟨false, List.mem_map.mpr ⟨x, m, e⟩, by decide⟩
theorem mt_need_pairs : Meets [sp_is_pair, noS] 2 1 ir_need_pairs sp_need_pairs := by
  rintro args h F E (⟨r, rows, rfl, e, l1, l2, hg, kf⟩ | ⟨v, rfl, b, kf⟩)
  · refine ⟨rfl, ?_⟩
    unfold ir_need_pairs
    have l1' : (1 : Int) ≤ rows.length := by omega
    have l2' : (rows.length : Int) ≤ 30 := by omega
    show wSs _ _ [some _, none] h _
    refine wSs_step ?_; simp_arith [e, l1', l2']
    refine wComp_map (fun _ => .bl true) _ (fun h' x => ⟨x _ _ e, trivial⟩) (fun x hx h' ex => ⟨_, rfl, fun G hG => ?_⟩) (by rw [List.length_map]; show rows.length ≤ 16777216; omega) fun h' ex => ?_
    · simp_arith []
      obtain ⟨p, hp, rfl⟩ := List.mem_map.mp hx
      refine ⟨_, rfl, ?_, fun h2 e2 => ?_⟩
      · intro y my
        rcases List.mem_cons.mp my with rfl | my
        · trivial
        · rw [List.mem_singleton.mp my]
          trivial
      · rw [isP_good (hg p hp)]
        exact hG h2 (ex.trans e2)
    · simp_arith [new_get, boolsOf_const, all_const]
      exact kf _ (ex.trans .app)
  · refine ⟨rfl, ?_⟩
    unfold ir_need_pairs
    show wSs _ _ [some _, none] h _
    have k0 := kf h .rfl'
    rcases b with b | ⟨r, xs, rfl, er, lx, t, c⟩
    · cases v with
      | ref r =>
        obtain ⟨kvs, e⟩ := b
        refine wSs_step ?_; simp_arith [e]
        exact k0
      | non => refine wSs_step ?_; simp_arith []; exact k0
      | bl => refine wSs_step ?_; simp_arith []; exact k0
      | int => refine wSs_step ?_; simp_arith []; exact k0
      | str => refine wSs_step ?_; simp_arith []; exact k0
      | itp => refine wSs_step ?_; simp_arith []; exact k0
      | tup => refine wSs_step ?_; simp_arith []; exact k0
      | _ => exact b.elim
    · by_cases c1 : (1 : Int) ≤ xs.length
      · by_cases c2 : (xs.length : Int) ≤ 30
        · obtain ⟨x, mx, ex⟩ : ∃ x ∈ xs, isP x = false := by
            rcases c with c | c | c
            · omega
            · omega
            · exact c
          refine wSs_step ?_; simp_arith [er, c1, c2]
          refine wComp_map (fun x => .bl (isP x)) _ (fun h' x => ⟨x _ _ er, trivial⟩) (fun x hx h' X => ⟨_, rfl, fun G hG => ?_⟩) (by show xs.length ≤ 16777216; omega) fun h' X => ?_
          · simp_arith []
            exact ⟨_, rfl, (t x hx).ext X, fun h2 X2 => hG _ (X.trans X2)⟩
          · simp_arith [new_get, bools_of, all_no mx ex]
            exact kf _ (X.trans .app)
        · refine wSs_step ?_; simp_arith [er, c1, c2]
          exact k0
      · refine wSs_step ?_; simp_arith [er, c1]
        exact k0
/-! ### orders -/
def gp_is_order : Z.Spec := fun args h F _ => ∃ (r : Nat) (os : List Int) (n : Int), args = [.ref r, .int n] ∧ h[r]? = some (.lst (os.map PV.int)) ∧ (os.length : Int) = n ∧ n ≤ 4000 ∧ os.Nodup ∧ (∀ o ∈ os, 0 ≤ o ∧ o < n) ∧ ∀ h', Ext h h' → F (.bl true) h'
def NoOrd (h : Hep) (n : Int) (v : PV) : Prop := NoListT h v ∨ ∃ (r : Nat) (xs : List PV), v = .ref r ∧ h[r]? = some (.lst xs) ∧ xs.length ≤ 1000 ∧ (∀ x ∈ xs, Thg h x) ∧ ((xs.length : Int) ≠ n ∨ (∃ x ∈ xs, amV 0 (n - 1) x = false) ∨ ∃ os : List Int, xs = os.map PV.int ∧ ¬ os.Nodup)
theorem NoOrd.ext {h h' : Hep} {n : Int} {v : PV} (b : NoOrd h n v) (X : Ext h h') : NoOrd h' n v := by
  rcases b with b | ⟨r, xs, e, er, l, t, c⟩
  · exact .inl (b.ext X)
  · exact .inr ⟨r, xs, e, X _ _ er, l, fun x m => (t x m).ext X, c⟩
def sp_is_order : Z.Spec := fun args h F E => gp_is_order args h F E ∨ ∃ (v : PV) (n : Int), args = [v, .int n] ∧ NoOrd h n v ∧ ∀ h', Ext h h' → F (.bl false) h'
theorem NO {args : List PV} {h : Hep} {F : KQ} {E : KX} (x : gp_is_order args h F E) : sp_is_order args h F E := .inl x
theorem firsts_lenO {κ : Type} [DecidableEq κ] : ∀ (ks acc : List κ), (ks.foldl (fun acc k => if k ∈ acc then acc else acc ++ [k]) acc).length ≤ acc.length + ks.length ∧ ((ks.foldl (fun acc k => if k ∈ acc then acc else acc ++ [k]) acc).length = acc.length + ks.length ↔ ks.Nodup ∧ ∀ x ∈ ks, x ∉ acc)
  | [], acc => ⟨Nat.le_refl _, by simp⟩
  | k :: ks, acc => by
    rw [List.foldl_cons]
    by_cases c : k ∈ acc
    · rw [if_pos c]
      obtain ⟨a, _⟩ := firsts_lenO ks acc
      refine ⟨by rw [List.length_cons]; omega, ⟨fun e => by rw [List.length_cons] at e; omega, fun ⟨_, z⟩ => absurd c (z k List.mem_cons_self)⟩⟩
    · rw [if_neg c]
      obtain ⟨a, b⟩ := firsts_lenO ks (acc ++ [k])
      rw [List.length_append, List.length_singleton] at a b
      rw [List.length_cons]
      refine ⟨by omega, ⟨fun e => ?_, fun ⟨nd, z⟩ => ?_⟩⟩
      · obtain ⟨nd, z⟩ := b.mp (by omega)
        refine ⟨List.nodup_cons.mpr ⟨fun m => z k m (by simp), nd⟩, fun x m => ?_⟩
        rcases List.mem_cons.mp m with rfl | m
        · exact c
        · exact fun m2 => z x m (List.mem_append_left _ m2)
      · obtain ⟨n1, n2⟩ := List.nodup_cons.mp nd
        have := b.mpr ⟨n2, fun x m m2 => by
          rcases List.mem_append.mp m2 with m2 | m2
          · exact z x (List.mem_cons_of_mem _ m) m2
          · rw [List.mem_singleton.mp m2] at m
            exact n1 m⟩
        omega
theorem firsts_ints (os : List Int) : (firsts (os.map (Sum.inl : Int → At))).length = os.length ↔ os.Nodup := by
  have h := (firsts_lenO (os.map (Sum.inl : Int → At)) []).2
  have h : (firsts (os.map (Sum.inl : Int → At))).length = 0 + (os.map (Sum.inl : Int → At)).length ↔ (os.map (Sum.inl : Int → At)).Nodup ∧ ∀ x ∈ os.map (Sum.inl : Int → At), x ∉ ([] : List At) := h
  rw [Nat.zero_add, List.length_map] at h
  rw [h]
  constructor
  · rintro ⟨a, _⟩
    exact (List.pairwise_map.mp a).imp fun n e => n (by rw [e])
  · intro a
    refine ⟨List.pairwise_map.mpr (a.imp fun n e => n (by injection e)), fun x _ m => by cases m⟩
theorem keyAtoms_ints (os : List Int) : keyAtoms (os.map PV.int) = some (os.map (Sum.inl : Int → At)) := by
  induction os with
  | nil => rfl
  | cons o os ih =>
    rw [List.map_cons, keyAtoms, ih]
    rfl
theorem all_yes {f : PV → Bool} {xs : List PV} (e : ∀ x ∈ xs, f x = true) : (xs.map f).all id = true := by
  rw [List.all_eq_true]
  intro b m
  obtain ⟨x, mx, rfl⟩ := List.mem_map.mp m
  exact e x mx
theorem mt_is_order : Meets [sp_is_among] 3 2 ir_is_order sp_is_order := by
  rintro args h F E (⟨r, os, n, rfl, e, rfl, hn, nd, hb, kf⟩ | ⟨v, n, rfl, b, kf⟩)
  · refine ⟨rfl, ?_⟩
    unfold ir_is_order
    show wSs _ _ [some _, some _, none] h _
    refine wSs_step ?_; simp_arith [e]
    refine wComp_map (fun _ => .bl true) _ (fun h' x => ⟨x _ _ e, trivial⟩) (fun x hx h' ex => ⟨_, rfl, fun G hG => ?_⟩) (by rw [List.length_map]; show os.length ≤ 16777216; omega) fun h' ex => ?_
    · obtain ⟨p, hp, rfl⟩ := List.mem_map.mp hx
      obtain ⟨b1, b2⟩ := hb p hp
      simp_arith []
      exact among_int b1 (by omega) (hG h' ex)
    · have e2 := ex _ _ e
      simp_arith [new_get, boolsOf_const, all_const]
      refine wSs_step ?_; simp_arith [app_get e2]
      refine ⟨_, keyAtoms_ints os, by rw [List.length_map]; omega, ?_⟩
      rw [(firsts_ints os).mpr nd]
      simp_arith []
      exact kf _ (ex.trans .app)
  · refine ⟨rfl, ?_⟩
    unfold ir_is_order
    show wSs _ _ [some _, some _, none] h _
    have k0 := kf h .rfl'
    rcases b with b | ⟨r, xs, rfl, er, lx, t, c⟩
    · cases v with
      | ref r =>
        obtain ⟨kvs, e⟩ := b
        refine wSs_step ?_; simp_arith [e]
        exact k0
      | non => refine wSs_step ?_; simp_arith []; exact k0
      | bl => refine wSs_step ?_; simp_arith []; exact k0
      | int => refine wSs_step ?_; simp_arith []; exact k0
      | str => refine wSs_step ?_; simp_arith []; exact k0
      | itp => refine wSs_step ?_; simp_arith []; exact k0
      | tup => refine wSs_step ?_; simp_arith []; exact k0
      | _ => exact b.elim
    · by_cases c1 : (xs.length : Int) = n
      · subst c1
        refine wSs_step ?_; simp_arith [er]
        refine wComp_map (fun x => .bl (amV 0 ((xs.length : Int) - 1) x)) _ (fun h' x => ⟨x _ _ er, trivial⟩) (fun x hx h' X => ⟨_, rfl, fun G hG => ?_⟩) (by show xs.length ≤ 16777216; omega) fun h' X => ?_
        · simp_arith []
          exact am_any ((t x hx).ext X) (hG _ X)
        · simp_arith [new_get, bools_of]
          by_cases c2 : ∃ x ∈ xs, amV 0 ((xs.length : Int) - 1) x = false
          · obtain ⟨x, mx, ex⟩ := c2
            rw [all_no mx ex]
            simp_arith []
            exact kf _ (X.trans .app)
          · have ay : ∀ x ∈ xs, amV 0 ((xs.length : Int) - 1) x = true := fun x m => by
              cases q : amV 0 ((xs.length : Int) - 1) x with
              | true => rfl
              | false => exact absurd ⟨x, m, q⟩ c2
            obtain ⟨os, eo, nn⟩ : ∃ os : List Int, xs = os.map PV.int ∧ ¬ os.Nodup := by
              rcases c with c | c | c
              · exact absurd rfl c
              · exact absurd c c2
              · exact c
            rw [all_yes ay]
            simp_arith []
            subst eo
            rw [List.length_map] at *
            refine wSs_step ?_; simp_arith [app_get (X _ _ er)]
            refine ⟨_, keyAtoms_ints os, by rw [List.length_map]; omega, ?_⟩
            have nf : (((firsts (os.map (Sum.inl : Int → At))).length : Int) == (os.length : Int)) = false := by
              rw [beq_eq_false_iff_ne]
              exact fun z => nn ((firsts_ints os).mp (by omega))
            rw [nf]
            exact kf _ (X.trans .app)
      · have c1' : ((xs.length : Int) == n) = false := by simpa using c1
        refine wSs_step ?_; simp_arith [er, c1']
        exact k0
end Law

namespace Law
open PySem Z Com
def sp__law_mixed : Z.Spec := Com.sp__law_mixed
theorem mt__law_mixed : Meets [] 3 2 ir__law_mixed sp__law_mixed := Com.mt__law_mixed
def sp__law_draw : Z.Spec := Com.sp__law_draw
theorem mt__law_draw : Meets [] 5 2 ir__law_draw sp__law_draw := Com.mt__law_draw
def sp__law_next : Z.Spec := Com.sp__law_next
theorem mt__law_next : Meets [sp__law_mixed] 4 2 ir__law_next sp__law_next := Com.mt__law_next
def sp__law_rows : Z.Spec := fun args h F _ => ∃ (d : Nat) (most : Int), args = [.ref d, .int most] ∧ IsDraw h d (10 ^ 9) ∧ 1 ≤ most ∧ most ≤ 30 ∧
  ∀ (r : Nat) (h' : Hep) (rows : List (Int × Int)), ExtB d h h' → h.length ≤ r → h'[r]? = some (.lst (rows.map pairV)) → 1 ≤ rows.length → (rows.length : Int) ≤ most → (∀ p ∈ rows, GoodRow p) → F (.ref r) h'
theorem mt__law_rows : Meets [sp__law_next] 5 2 ir__law_rows sp__law_rows := by
  rintro args h F E ⟨d, most, rfl, dr, m1, m2, kf⟩
  refine ⟨rfl, ?_⟩
  unfold ir__law_rows
  simp (maxSteps := 2000000) only [wSs, inW, dsetW, tixW, isWt, wComp, wFor, wSs_nil, wS, wE, wEs, wO, wC, wI, binW, binI, cmpW, truW, itemW, sliceW, revW, stpW, xtW, storeW, biW_1, biW_2, biW_3, biW_4, biW_5, biW_6, biW_7, biW_8, biW_9, biW_10, biW_11, biW_12, biW_13, biW_14, biW_15, biW_16, biW_17, biW_18, biW_19, biW_20, biW_21, biW_22, biW_23, biW_24, biW_25, biW_26, biW_27, biW_28, biW_29, biW_30, biW_31, biW_32, biW_33, biW_34, biW_35, biW_36, biW_37, biW_38, biW_39, biW_40, biW_41, biW_42, biW_43, biW_44, isT, isxW, isxsW, miW_1, miW_2, miW_3, miW_4, miW_5, miW_6, miW_7, miW_8, miW_9, miW_10, miW_11, isL, getL, getD, listW, seqW, walkW, fldW, insW, stfW, getO, putZ, pairW, dgetW, isD, smW, isS, tgt, tgts, wipeZ, grdOk, eqW_int, enter, List.map_cons, List.map_nil, List.length_cons, List.length_nil, List.replicate_succ, List.replicate_zero, Nat.add_sub_cancel, Nat.sub_self, Nat.zero_add, List.cons_append, List.nil_append, List.getElem?_cons_zero, List.getElem?_cons_succ, List.set_cons_zero, List.set_cons_succ, if_true, if_false, ite_true, ite_false, Bool.not_true, Bool.not_false, Bool.true_eq_false, Bool.false_eq_true, true_and, and_true, reduceCtorEq, Option.some.injEq, false_and, and_false, false_or, or_false, true_or, or_true, Nat.reduceAdd, Nat.reduceSub, List.isEmpty_cons, List.isEmpty_nil, beq_self_eq_true, decide_true, decide_false, Bool.false_or, Bool.true_or, Bool.or_false, Bool.or_true, Bool.and_true, Bool.and_false, Bool.true_and, Bool.false_and, reduceIte, dite_true, dite_false, beq_iff_eq, decide_eq_true_eq, bne_iff_ne, ixN_int, Int.reduceLE, Int.reduceLT, Int.reduceNeg, Int.reduceToNat, Int.cast_ofNat_Int, exists_and_left, exists_eq_left', exists_eq_left, exists_eq', not_true_eq_false, not_false_eq_true, Int.toNat_natCast, Nat.reduceLT, Nat.reduceLeDiff, ne_eq, big, Nat.zero_le, List.length_map, List.getElem?_map, Option.map_some, Option.map_none, Int.reducePow, Nat.reducePow]
  refine ⟨d, 3, 10 ^ 9, rfl, dr.app, by decide, by decide, by decide, fun v h1 v1 v2 dr1 l1 e1 => ?_⟩
  have lb := dr.lt
  have g1 : h1[h.length]? = some (.lst [.int 3, .int 9, .int 1000]) := by rw [e1 _ (by omega)]; exact new_get
  have x1 : ExtB d h h1 := Ext.app.b.trans (nextB l1 e1)
  have hlen : (h ++ [Ob.lst [PV.int 3, PV.int 9, PV.int 1000]]).length = h.length + 1 := by simp
  simp (maxSteps := 2000000) only [wSs, inW, dsetW, tixW, isWt, wComp, wFor, wSs_nil, wS, wE, wEs, wO, wC, wI, binW, binI, cmpW, truW, itemW, sliceW, revW, stpW, xtW, storeW, biW_1, biW_2, biW_3, biW_4, biW_5, biW_6, biW_7, biW_8, biW_9, biW_10, biW_11, biW_12, biW_13, biW_14, biW_15, biW_16, biW_17, biW_18, biW_19, biW_20, biW_21, biW_22, biW_23, biW_24, biW_25, biW_26, biW_27, biW_28, biW_29, biW_30, biW_31, biW_32, biW_33, biW_34, biW_35, biW_36, biW_37, biW_38, biW_39, biW_40, biW_41, biW_42, biW_43, biW_44, isT, isxW, isxsW, miW_1, miW_2, miW_3, miW_4, miW_5, miW_6, miW_7, miW_8, miW_9, miW_10, miW_11, isL, getL, getD, listW, seqW, walkW, fldW, insW, stfW, getO, putZ, pairW, dgetW, isD, smW, isS, tgt, tgts, wipeZ, grdOk, eqW_int, enter, List.map_cons, List.map_nil, List.length_cons, List.length_nil, List.replicate_succ, List.replicate_zero, Nat.add_sub_cancel, Nat.sub_self, Nat.zero_add, List.cons_append, List.nil_append, List.getElem?_cons_zero, List.getElem?_cons_succ, List.set_cons_zero, List.set_cons_succ, if_true, if_false, ite_true, ite_false, Bool.not_true, Bool.not_false, Bool.true_eq_false, Bool.false_eq_true, true_and, and_true, reduceCtorEq, Option.some.injEq, false_and, and_false, false_or, or_false, true_or, or_true, Nat.reduceAdd, Nat.reduceSub, List.isEmpty_cons, List.isEmpty_nil, beq_self_eq_true, decide_true, decide_false, Bool.false_or, Bool.true_or, Bool.or_false, Bool.or_true, Bool.and_true, Bool.and_false, Bool.true_and, Bool.false_and, reduceIte, dite_true, dite_false, beq_iff_eq, decide_eq_true_eq, bne_iff_ne, ixN_int, Int.reduceLE, Int.reduceLT, Int.reduceNeg, Int.reduceToNat, Int.cast_ofNat_Int, exists_and_left, exists_eq_left', exists_eq_left, exists_eq', not_true_eq_false, not_false_eq_true, Int.toNat_natCast, Nat.reduceLT, Nat.reduceLeDiff, ne_eq, big, Nat.zero_le, List.length_map, List.getElem?_map, Option.map_some, Option.map_none, Int.reducePow, Nat.reducePow, g1]
  obtain ⟨b, hb1, hb2, hb⟩ : ∃ b : Int, 1 ≤ b ∧ b ≤ 1000 ∧ ([PV.int 3, PV.int 9, PV.int 1000])[v.toNat]? = some (.int b) := by
    have : v.toNat = 0 ∨ v.toNat = 1 ∨ v.toNat = 2 := by omega
    rcases this with q | q | q <;> rw [q]
    · exact ⟨3, by decide, by decide, rfl⟩
    · exact ⟨9, by decide, by decide, rfl⟩
    · exact ⟨1000, by decide, by decide, rfl⟩
  refine ⟨v.toNat, ixN_int v1 (by simpa using v2), .int b, hb, ?_⟩
  refine ⟨d, most, 10 ^ 9 + 1, rfl, dr1.app, by decide, m1, by omega, fun n h2 n1 n2 dr2 l2 e2 => ?_⟩
  have lh1 : h1.length = h.length + 1 := by omega
  have g2 : h2[h1.length]? = some (.lst []) := by rw [e2 _ (by omega)]; exact new_get
  have x2 : ExtB d h h2 := (x1.app).trans (nextB l2 e2)
  simp (maxSteps := 2000000) only [wSs, inW, dsetW, tixW, isWt, wComp, wFor, wSs_nil, wS, wE, wEs, wO, wC, wI, binW, binI, cmpW, truW, itemW, sliceW, revW, stpW, xtW, storeW, biW_1, biW_2, biW_3, biW_4, biW_5, biW_6, biW_7, biW_8, biW_9, biW_10, biW_11, biW_12, biW_13, biW_14, biW_15, biW_16, biW_17, biW_18, biW_19, biW_20, biW_21, biW_22, biW_23, biW_24, biW_25, biW_26, biW_27, biW_28, biW_29, biW_30, biW_31, biW_32, biW_33, biW_34, biW_35, biW_36, biW_37, biW_38, biW_39, biW_40, biW_41, biW_42, biW_43, biW_44, isT, isxW, isxsW, miW_1, miW_2, miW_3, miW_4, miW_5, miW_6, miW_7, miW_8, miW_9, miW_10, miW_11, isL, getL, getD, listW, seqW, walkW, fldW, insW, stfW, getO, putZ, pairW, dgetW, isD, smW, isS, tgt, tgts, wipeZ, grdOk, eqW_int, enter, List.map_cons, List.map_nil, List.length_cons, List.length_nil, List.replicate_succ, List.replicate_zero, Nat.add_sub_cancel, Nat.sub_self, Nat.zero_add, List.cons_append, List.nil_append, List.getElem?_cons_zero, List.getElem?_cons_succ, List.set_cons_zero, List.set_cons_succ, if_true, if_false, ite_true, ite_false, Bool.not_true, Bool.not_false, Bool.true_eq_false, Bool.false_eq_true, true_and, and_true, reduceCtorEq, Option.some.injEq, false_and, and_false, false_or, or_false, true_or, or_true, Nat.reduceAdd, Nat.reduceSub, List.isEmpty_cons, List.isEmpty_nil, beq_self_eq_true, decide_true, decide_false, Bool.false_or, Bool.true_or, Bool.or_false, Bool.or_true, Bool.and_true, Bool.and_false, Bool.true_and, Bool.false_and, reduceIte, dite_true, dite_false, beq_iff_eq, decide_eq_true_eq, bne_iff_ne, ixN_int, Int.reduceLE, Int.reduceLT, Int.reduceNeg, Int.reduceToNat, Int.cast_ofNat_Int, exists_and_left, exists_eq_left', exists_eq_left, exists_eq', not_true_eq_false, not_false_eq_true, Int.toNat_natCast, Nat.reduceLT, Nat.reduceLeDiff, ne_eq, big, Nat.zero_le, List.length_map, List.getElem?_map, Option.map_some, Option.map_none, Int.reducePow, Nat.reducePow]
  refine ⟨by omega, by omega, ?_⟩
  refine wFor_ind (fun rest σ h' => ∃ (rows : List (Int × Int)) (y : Option PV), σ = [some (.ref d), some (.int most), some (.int b), some (.ref h1.length), y] ∧ h'[h1.length]? = some (.lst (rows.map pairV)) ∧
    rest.length + rows.length = (1 + n).toNat ∧ IsDraw h' d (10 ^ 9 + 2 + 2 * rows.length) ∧ (∀ p ∈ rows, GoodRow p) ∧ ExtB d h h') _ _ _ ⟨[], none, rfl, g2, by simp [rngL], dr2.le (by decide), by simp, x2⟩ ?_ ?_
  · rintro x rest σ h3 ⟨rows, y, rfl, g3, hl, dr3, good, x3⟩
    refine ⟨trivial, _, rfl, fun K hK => ?_⟩
    have hr : rows.length ≤ 30 := by simp at hl; omega
    simp (maxSteps := 2000000) only [wSs, inW, dsetW, tixW, isWt, wComp, wFor, wSs_nil, wS, wE, wEs, wO, wC, wI, binW, binI, cmpW, truW, itemW, sliceW, revW, stpW, xtW, storeW, biW_1, biW_2, biW_3, biW_4, biW_5, biW_6, biW_7, biW_8, biW_9, biW_10, biW_11, biW_12, biW_13, biW_14, biW_15, biW_16, biW_17, biW_18, biW_19, biW_20, biW_21, biW_22, biW_23, biW_24, biW_25, biW_26, biW_27, biW_28, biW_29, biW_30, biW_31, biW_32, biW_33, biW_34, biW_35, biW_36, biW_37, biW_38, biW_39, biW_40, biW_41, biW_42, biW_43, biW_44, isT, isxW, isxsW, miW_1, miW_2, miW_3, miW_4, miW_5, miW_6, miW_7, miW_8, miW_9, miW_10, miW_11, isL, getL, getD, listW, seqW, walkW, fldW, insW, stfW, getO, putZ, pairW, dgetW, isD, smW, isS, tgt, tgts, wipeZ, grdOk, eqW_int, enter, List.map_cons, List.map_nil, List.length_cons, List.length_nil, List.replicate_succ, List.replicate_zero, Nat.add_sub_cancel, Nat.sub_self, Nat.zero_add, List.cons_append, List.nil_append, List.getElem?_cons_zero, List.getElem?_cons_succ, List.set_cons_zero, List.set_cons_succ, if_true, if_false, ite_true, ite_false, Bool.not_true, Bool.not_false, Bool.true_eq_false, Bool.false_eq_true, true_and, and_true, reduceCtorEq, Option.some.injEq, false_and, and_false, false_or, or_false, true_or, or_true, Nat.reduceAdd, Nat.reduceSub, List.isEmpty_cons, List.isEmpty_nil, beq_self_eq_true, decide_true, decide_false, Bool.false_or, Bool.true_or, Bool.or_false, Bool.or_true, Bool.and_true, Bool.and_false, Bool.true_and, Bool.false_and, reduceIte, dite_true, dite_false, beq_iff_eq, decide_eq_true_eq, bne_iff_ne, ixN_int, Int.reduceLE, Int.reduceLT, Int.reduceNeg, Int.reduceToNat, Int.cast_ofNat_Int, exists_and_left, exists_eq_left', exists_eq_left, exists_eq', not_true_eq_false, not_false_eq_true, Int.toNat_natCast, Nat.reduceLT, Nat.reduceLeDiff, ne_eq, big, Nat.zero_le, List.length_map, List.getElem?_map, Option.map_some, Option.map_none, Int.reducePow, Nat.reducePow, g3]
    refine ⟨d, b, _, rfl, dr3, by omega, hb1, by omega, fun v4 h4 v41 v42 dr4 l4 e4 => ?_⟩
    simp (maxSteps := 2000000) only [wSs, inW, dsetW, tixW, isWt, wComp, wFor, wSs_nil, wS, wE, wEs, wO, wC, wI, binW, binI, cmpW, truW, itemW, sliceW, revW, stpW, xtW, storeW, biW_1, biW_2, biW_3, biW_4, biW_5, biW_6, biW_7, biW_8, biW_9, biW_10, biW_11, biW_12, biW_13, biW_14, biW_15, biW_16, biW_17, biW_18, biW_19, biW_20, biW_21, biW_22, biW_23, biW_24, biW_25, biW_26, biW_27, biW_28, biW_29, biW_30, biW_31, biW_32, biW_33, biW_34, biW_35, biW_36, biW_37, biW_38, biW_39, biW_40, biW_41, biW_42, biW_43, biW_44, isT, isxW, isxsW, miW_1, miW_2, miW_3, miW_4, miW_5, miW_6, miW_7, miW_8, miW_9, miW_10, miW_11, isL, getL, getD, listW, seqW, walkW, fldW, insW, stfW, getO, putZ, pairW, dgetW, isD, smW, isS, tgt, tgts, wipeZ, grdOk, eqW_int, enter, List.map_cons, List.map_nil, List.length_cons, List.length_nil, List.replicate_succ, List.replicate_zero, Nat.add_sub_cancel, Nat.sub_self, Nat.zero_add, List.cons_append, List.nil_append, List.getElem?_cons_zero, List.getElem?_cons_succ, List.set_cons_zero, List.set_cons_succ, if_true, if_false, ite_true, ite_false, Bool.not_true, Bool.not_false, Bool.true_eq_false, Bool.false_eq_true, true_and, and_true, reduceCtorEq, Option.some.injEq, false_and, and_false, false_or, or_false, true_or, or_true, Nat.reduceAdd, Nat.reduceSub, List.isEmpty_cons, List.isEmpty_nil, beq_self_eq_true, decide_true, decide_false, Bool.false_or, Bool.true_or, Bool.or_false, Bool.or_true, Bool.and_true, Bool.and_false, Bool.true_and, Bool.false_and, reduceIte, dite_true, dite_false, beq_iff_eq, decide_eq_true_eq, bne_iff_ne, ixN_int, Int.reduceLE, Int.reduceLT, Int.reduceNeg, Int.reduceToNat, Int.cast_ofNat_Int, exists_and_left, exists_eq_left', exists_eq_left, exists_eq', not_true_eq_false, not_false_eq_true, Int.toNat_natCast, Nat.reduceLT, Nat.reduceLeDiff, ne_eq, big, Nat.zero_le, List.length_map, List.getElem?_map, Option.map_some, Option.map_none, Int.reducePow, Nat.reducePow]
    refine ⟨d, b, _, rfl, dr4, by omega, hb1, by omega, fun v5 h5 v51 v52 dr5 l5 e5 => ?_⟩
    have g5 : h5[h1.length]? = some (.lst (rows.map pairV)) := by rw [e5 _ (by omega), e4 _ (by omega)]; exact g3
    simp (maxSteps := 2000000) only [wSs, inW, dsetW, tixW, isWt, wComp, wFor, wSs_nil, wS, wE, wEs, wO, wC, wI, binW, binI, cmpW, truW, itemW, sliceW, revW, stpW, xtW, storeW, biW_1, biW_2, biW_3, biW_4, biW_5, biW_6, biW_7, biW_8, biW_9, biW_10, biW_11, biW_12, biW_13, biW_14, biW_15, biW_16, biW_17, biW_18, biW_19, biW_20, biW_21, biW_22, biW_23, biW_24, biW_25, biW_26, biW_27, biW_28, biW_29, biW_30, biW_31, biW_32, biW_33, biW_34, biW_35, biW_36, biW_37, biW_38, biW_39, biW_40, biW_41, biW_42, biW_43, biW_44, isT, isxW, isxsW, miW_1, miW_2, miW_3, miW_4, miW_5, miW_6, miW_7, miW_8, miW_9, miW_10, miW_11, isL, getL, getD, listW, seqW, walkW, fldW, insW, stfW, getO, putZ, pairW, dgetW, isD, smW, isS, tgt, tgts, wipeZ, grdOk, eqW_int, enter, List.map_cons, List.map_nil, List.length_cons, List.length_nil, List.replicate_succ, List.replicate_zero, Nat.add_sub_cancel, Nat.sub_self, Nat.zero_add, List.cons_append, List.nil_append, List.getElem?_cons_zero, List.getElem?_cons_succ, List.set_cons_zero, List.set_cons_succ, if_true, if_false, ite_true, ite_false, Bool.not_true, Bool.not_false, Bool.true_eq_false, Bool.false_eq_true, true_and, and_true, reduceCtorEq, Option.some.injEq, false_and, and_false, false_or, or_false, true_or, or_true, Nat.reduceAdd, Nat.reduceSub, List.isEmpty_cons, List.isEmpty_nil, beq_self_eq_true, decide_true, decide_false, Bool.false_or, Bool.true_or, Bool.or_false, Bool.or_true, Bool.and_true, Bool.and_false, Bool.true_and, Bool.false_and, reduceIte, dite_true, dite_false, beq_iff_eq, decide_eq_true_eq, bne_iff_ne, ixN_int, Int.reduceLE, Int.reduceLT, Int.reduceNeg, Int.reduceToNat, Int.cast_ofNat_Int, exists_and_left, exists_eq_left', exists_eq_left, exists_eq', not_true_eq_false, not_false_eq_true, Int.toNat_natCast, Nat.reduceLT, Nat.reduceLeDiff, ne_eq, big, Nat.zero_le, List.length_map, List.getElem?_map, Option.map_some, Option.map_none, Int.reducePow, Nat.reducePow, g5]
    refine ⟨by omega, hK _ _ ⟨rows ++ [(1 + v4, 1 + v5)], _, rfl, ?_, ?_, ?_, ?_, ?_⟩⟩
    · rw [set_get g5]; simp [pairV]
    · simp at hl ⊢; omega
    · exact (dr5.set (by omega)).le (by simp; omega)
    · intro p hp
      rcases List.mem_append.mp hp with hp | hp
      · exact good p hp
      · rw [List.mem_singleton.mp hp]
        exact ⟨by show 1 ≤ 1 + v4; omega, by show 1 + v4 ≤ 1000; omega, by show 1 ≤ 1 + v5; omega, by show 1 + v5 ≤ 1000; omega⟩
    · exact ((x3.trans (nextB l4 e4)).trans (nextB l5 e5)).set' (by omega)
  · rintro σ h3 ⟨rows, y, rfl, g3, hl, dr3, good, x3⟩
    refine ⟨trivial, ?_⟩
    simp (maxSteps := 2000000) only [wSs, inW, dsetW, tixW, isWt, wComp, wFor, wSs_nil, wS, wE, wEs, wO, wC, wI, binW, binI, cmpW, truW, itemW, sliceW, revW, stpW, xtW, storeW, biW_1, biW_2, biW_3, biW_4, biW_5, biW_6, biW_7, biW_8, biW_9, biW_10, biW_11, biW_12, biW_13, biW_14, biW_15, biW_16, biW_17, biW_18, biW_19, biW_20, biW_21, biW_22, biW_23, biW_24, biW_25, biW_26, biW_27, biW_28, biW_29, biW_30, biW_31, biW_32, biW_33, biW_34, biW_35, biW_36, biW_37, biW_38, biW_39, biW_40, biW_41, biW_42, biW_43, biW_44, isT, isxW, isxsW, miW_1, miW_2, miW_3, miW_4, miW_5, miW_6, miW_7, miW_8, miW_9, miW_10, miW_11, isL, getL, getD, listW, seqW, walkW, fldW, insW, stfW, getO, putZ, pairW, dgetW, isD, smW, isS, tgt, tgts, wipeZ, grdOk, eqW_int, enter, List.map_cons, List.map_nil, List.length_cons, List.length_nil, List.replicate_succ, List.replicate_zero, Nat.add_sub_cancel, Nat.sub_self, Nat.zero_add, List.cons_append, List.nil_append, List.getElem?_cons_zero, List.getElem?_cons_succ, List.set_cons_zero, List.set_cons_succ, if_true, if_false, ite_true, ite_false, Bool.not_true, Bool.not_false, Bool.true_eq_false, Bool.false_eq_true, true_and, and_true, reduceCtorEq, Option.some.injEq, false_and, and_false, false_or, or_false, true_or, or_true, Nat.reduceAdd, Nat.reduceSub, List.isEmpty_cons, List.isEmpty_nil, beq_self_eq_true, decide_true, decide_false, Bool.false_or, Bool.true_or, Bool.or_false, Bool.or_true, Bool.and_true, Bool.and_false, Bool.true_and, Bool.false_and, reduceIte, dite_true, dite_false, beq_iff_eq, decide_eq_true_eq, bne_iff_ne, ixN_int, Int.reduceLE, Int.reduceLT, Int.reduceNeg, Int.reduceToNat, Int.cast_ofNat_Int, exists_and_left, exists_eq_left', exists_eq_left, exists_eq', not_true_eq_false, not_false_eq_true, Int.toNat_natCast, Nat.reduceLT, Nat.reduceLeDiff, ne_eq, big, Nat.zero_le, List.length_map, List.getElem?_map, Option.map_some, Option.map_none, Int.reducePow, Nat.reducePow]
    simp at hl
    exact kf _ _ rows x3 (by omega) g3 (by omega) (by omega) good
end Law

namespace Law
open PySem Z Com
def GoodOrder (n : Int) (os : List Int) : Prop := (os.length : Int) = n ∧ os.Nodup ∧ (∀ o ∈ os, 0 ≤ o ∧ o < n) ∧ ∀ i, 0 ≤ i → i < n → i ∈ os
theorem rng_order (n : Int) (h : 0 ≤ n) (os : List Int) (p : os.Perm ((List.range n.toNat).map fun (i : Nat) => (i : Int))) : GoodOrder n os := by
  refine ⟨?_, ?_, fun o ho => ?_, fun i h0 h1 => p.mem_iff.mpr (List.mem_map.mpr ⟨i.toNat, List.mem_range.mpr (by omega), by omega⟩)⟩
  · rw [p.length_eq]; simp; omega
  · refine p.nodup_iff.mpr ?_
    refine List.Pairwise.map _ (fun a b hab => ?_) List.nodup_range
    intro e; exact hab (by omega)
  · have := p.mem_iff.mp ho
    obtain ⟨i, hi, rfl⟩ := List.mem_map.mp this
    have := List.mem_range.mp hi
    omega
end Law

namespace Law
open PySem Z Com
abbrev Rows := List (Int × Int)
def atR (rows : Rows) (i : Int) : Int × Int := (rows[i.toNat]?).getD (0, 0)
theorem rows_get {rows : Rows} {i : Int} (h0 : 0 ≤ i) (h1 : i < rows.length) : rows[i.toNat]? = some (atR rows i) := by
  unfold atR
  rw [List.getElem?_eq_getElem (by omega)]
  rfl
theorem atR_good {rows : Rows} {i : Int} (h0 : 0 ≤ i) (h1 : i < rows.length) (g : ∀ p ∈ rows, GoodRow p) : GoodRow (atR rows i) := g _ (List.mem_of_getElem? (rows_get h0 h1))
/-- the first machine: the hours, by the number -/
def acc (rows : Rows) (done : List Int) : Int × List (Int × PV) := done.foldl (fun s n => (s.1 + (atR rows n).1, s.2 ++ [(n, .int (s.1 + (atR rows n).1))])) (0, [])
theorem acc_snoc (rows : Rows) (done : List Int) (n : Int) : acc rows (done ++ [n]) = ((acc rows done).1 + (atR rows n).1, (acc rows done).2 ++ [(n, .int ((acc rows done).1 + (atR rows n).1))]) := by
  unfold acc
  rw [List.foldl_append]
  rfl
theorem snoc_ind {P : List Int → Prop} (h0 : P []) (hs : ∀ l n, P l → P (l ++ [n])) (l : List Int) : P l := by
  have : ∀ r : List Int, P r.reverse := fun r => by
    induction r with
    | nil => exact h0
    | cons x r ih => rw [List.reverse_cons]; exact hs _ _ ih
  have q := this l.reverse
  rwa [List.reverse_reverse] at q
theorem acc_keys (rows : Rows) : ∀ done : List Int, (acc rows done).2.map (·.1) = done := snoc_ind rfl fun l n ih => by
  rw [acc_snoc, List.map_append, ih]
  rfl
def rd (rows : Rows) (one : List Int) (n : Int) : Int := match (acc rows one).2.lookup n with | some (.int v) => v | _ => 0
theorem acc_vals (rows : Rows) (g : ∀ p ∈ rows, GoodRow p) : ∀ done : List Int, (∀ o ∈ done, 0 ≤ o ∧ o < rows.length) → 0 ≤ (acc rows done).1 ∧ ∀ p ∈ (acc rows done).2, ∃ v : Int, p.2 = .int v ∧ 0 ≤ v := snoc_ind (fun _ => ⟨Int.le_refl _, fun p h => by cases h⟩) fun l n ih h => by
  obtain ⟨a, b⟩ := ih fun o ho => h o (List.mem_append_left _ ho)
  obtain ⟨c1, c2⟩ := h n (List.mem_append_right _ (List.mem_singleton_self _))
  have gr := atR_good c1 c2 g
  have g1 := gr.1
  rw [acc_snoc]
  refine ⟨by show 0 ≤ (acc rows l).1 + (atR rows n).1; omega, fun p hp => ?_⟩
  rcases List.mem_append.mp hp with hp | hp
  · exact b p hp
  · rw [List.mem_singleton.mp hp]
    exact ⟨_, rfl, by omega⟩
theorem lookup_mem {n : Int} : ∀ {l : List (Int × PV)}, n ∈ l.map (·.1) → ∃ v, l.lookup n = some v ∧ (n, v) ∈ l
  | (m, v) :: l, h => by
    rw [List.lookup_cons]
    by_cases e : n = m
    · subst e
      exact ⟨v, by rw [beq_self_eq_true], List.mem_cons_self⟩
    · rw [show (n == m) = false from by simpa using e]
      obtain ⟨w, h1, h2⟩ := lookup_mem (l := l) (by
        rw [List.map_cons] at h
        rcases List.mem_cons.mp h with h | h
        · exact absurd h e
        · exact h)
      exact ⟨w, h1, List.mem_cons_of_mem _ h2⟩
theorem rd_get {rows : Rows} {one : List Int} {n : Int} (g : ∀ p ∈ rows, GoodRow p) (hb : ∀ o ∈ one, 0 ≤ o ∧ o < rows.length) (h : n ∈ one) : (acc rows one).2.lookup n = some (.int (rd rows one n)) ∧ 0 ≤ rd rows one n := by
  obtain ⟨v, h1, h2⟩ := lookup_mem (l := (acc rows one).2) (n := n) (by rw [acc_keys]; exact h)
  obtain ⟨w, h3, h4⟩ := (acc_vals rows g one hb).2 _ h2
  have h3 : v = .int w := h3
  subst h3
  unfold rd
  rw [h1]
  exact ⟨rfl, h4⟩
def bR (rows : Rows) (n : Int) : Int := (atR rows n).2
def spH (rows : Rows) (one : List Int) : Int → List Int → Int
  | t, [] => t
  | t, n :: r => spH rows one (max t (rd rows one n) + bR rows n) r
end Law

namespace Law
open PySem Z Com
/-- what a span is asked of -/
structure Asks (h : Hep) (a b c : Nat) (rows : Rows) (one two : List Int) : Prop where
  ea : h[a]? = some (.lst (rows.map pairV))
  eb : h[b]? = some (.lst (one.map PV.int))
  ec : h[c]? = some (.lst (two.map PV.int))
  l1 : 1 ≤ rows.length
  l2 : rows.length ≤ 30
  good : ∀ p ∈ rows, GoodRow p
  o1 : GoodOrder rows.length one
  o2 : GoodOrder rows.length two
theorem Asks.ext {h h' : Hep} {a b c : Nat} {rows : Rows} {one two : List Int} (s : Asks h a b c rows one two) (x : Ext h h') : Asks h' a b c rows one two := ⟨x _ _ s.ea, x _ _ s.eb, x _ _ s.ec, s.l1, s.l2, s.good, s.o1, s.o2⟩
def gp_span_of : Z.Spec := fun args h F _ => ∃ (a b c : Nat) (rows : Rows) (one two : List Int), args = [.ref a, .ref b, .ref c] ∧ Asks h a b c rows one two ∧ ∀ h', Ext h h' → F (.int (spH rows one 0 two)) h'
theorem gd_span_of : Meets [sp_need_pairs, sp_is_order, noS] 6 3 ir_span_of gp_span_of := by
  rintro args h F E ⟨a, b, c, rows, one, two, rfl, S, kf⟩
  refine ⟨rfl, ?_⟩
  unfold ir_span_of
  have ll := S.l2
  refine wSs_step ?_; simp_arith []
  refine NP ⟨a, rows, rfl, S.ea, S.l1, S.l2, S.good, fun h1 x1 => ?_⟩
  have S1 := S.ext x1
  refine wSs_step ?_; simp_arith [S1.ea]
  refine NO ⟨b, one, _, rfl, S1.eb, S1.o1.1, by omega, S1.o1.2.1, S1.o1.2.2.1, fun h2 x2 => ?_⟩
  have S2 := S1.ext x2
  simp_arith [S2.ea]
  refine NO ⟨c, two, _, rfl, S2.ec, S2.o2.1, by omega, S2.o2.2.1, S2.o2.2.2.1, fun h3 x3 => ?_⟩
  have S3 := S2.ext x3
  have S4 := S3.ext (h' := h3 ++ [Ob.dic []]) .app
  simp_arith []
  refine wSs_step ?_; simp_arith []
  refine wSs_step ?_; simp_arith []
  refine wSs_step ?_; simp_arith [S4.eb]
  have nd := S.o1.2.1
  refine wFor_ind (fun rest σ h' => ∃ (done rst : List Int) (y : Option PV), one = done ++ rst ∧ rest = rst.map PV.int ∧ σ = [some (.ref a), some (.ref b), some (.ref c), some (.ref h3.length), some (.int (acc rows done).1), y] ∧ h'[h3.length]? = some (.dic (kvI (acc rows done).2)) ∧ Ext h3 h') _ _ _ ⟨[], one, none, rfl, rfl, rfl, new_get, .app⟩ ?_ ?_
  · rintro x rest σ h' ⟨done, rst, y, e1, e2, rfl, e3, e4⟩
    have S5 := S3.ext e4
    cases rst with
    | nil => cases e2
    | cons n rst =>
      cases e2
      refine ⟨⟨S5.eb, trivial⟩, _, rfl, fun K hK => ?_⟩
      have hn : n ∈ one := by rw [e1]; simp
      obtain ⟨b1, b2⟩ := S.o1.2.2.1 n hn
      have nn : n ∉ (acc rows done).2.map (·.1) := by
        rw [acc_keys]
        rw [e1] at nd
        intro z
        exact (List.nodup_append.mp nd).2.2 n z n List.mem_cons_self rfl
      have dl : (acc rows done).2.length < 16777216 := by
        have q := congrArg List.length (acc_keys rows done)
        have q1 := S.o1.1
        rw [List.length_map] at q
        have q2 := congrArg List.length e1
        simp at q2
        omega
      refine wSs_step ?_; simp_arith [S5.ea, ixN_int b1 b2, rows_get b1 b2, pairV]
      refine wSs_step ?_; simp_arith [e3, keyOf, keyAtom, kind_kvI, len_kvI, dput_new nn]
      refine ⟨dl, hK _ _ ⟨done ++ [n], rst, some (.int n), by rw [e1]; simp, rfl, ?_, ?_, e4.set' (Nat.le_refl _)⟩⟩
      · rw [acc_snoc]
      · rw [set_get e3, acc_snoc]
  · rintro σ h4 ⟨done, rst, y, e1, e2, rfl, e3, e4⟩
    have S5 := S3.ext e4
    obtain rfl : rst = [] := by cases rst with
      | nil => rfl
      | cons _ _ => cases e2
    rw [List.append_nil] at e1
    subst e1
    refine ⟨⟨S5.eb, trivial⟩, ?_⟩
    refine wSs_step ?_; simp_arith []
    refine wSs_step ?_; simp_arith [S5.ec]
    refine wFor_ind (fun rest σ h' => h' = h4 ∧ ∃ (rst : List Int) (t : Int) (y : Option PV), (∀ n ∈ rst, n ∈ two) ∧ rest = rst.map PV.int ∧ σ = [some (.ref a), some (.ref b), some (.ref c), some (.ref h3.length), some (.int t), y] ∧ spH rows one t rst = spH rows one 0 two) _ _ _ ⟨rfl, two, 0, y, fun _ z => z, rfl, rfl, rfl⟩ ?_ ?_
    · rintro x rest σ h' ⟨rfl, rst, t, y, m, e2, rfl, ev⟩
      cases rst with
      | nil => cases e2
      | cons n rst =>
        cases e2
        refine ⟨⟨S5.ec, trivial⟩, _, rfl, fun K hK => ?_⟩
        obtain ⟨b1, b2⟩ := S.o2.2.2.1 n (m n List.mem_cons_self)
        have rg := (rd_get S.good S.o1.2.2.1 (S.o1.2.2.2 n b1 b2)).1
        refine wSs_step ?_; simp_arith [↓wE_max2, max2W_int, S5.ea, ixN_int b1 b2, rows_get b1 b2, pairV, e3, keyOf, keyAtom, dget_kvI, rg]
        exact hK _ _ ⟨rfl, rst, _, some (.int n), fun z hz => m z (List.mem_cons_of_mem _ hz), rfl, rfl, ev⟩
    · rintro σ h' ⟨rfl, rst, t, y, m, e2, rfl, ev⟩
      refine ⟨⟨S5.ec, trivial⟩, ?_⟩
      obtain rfl : rst = [] := by cases rst with
        | nil => rfl
        | cons _ _ => cases e2
      refine wSs_step ?_; simp_arith []
      have q : t = spH rows one 0 two := ev
      rw [q]
      exact kf _ (((x1.trans x2).trans x3).trans e4)
end Law

namespace Law
open PySem Z Com
end Law

/-! what sets show: the plain law -/
namespace Law
open PySem Z Com
/-- the sum of f over the numbers below n that p lets by -/
def sm (n : Nat) (f : Int → Int) (p : Int → Bool) : Int := ((List.range n).map fun (i : Nat) => if p i = true then f i else 0).sum
theorem sum_le {l : List Nat} {f g : Nat → Int} (h : ∀ i ∈ l, f i ≤ g i) : (l.map f).sum ≤ (l.map g).sum := by
  induction l with
  | nil => exact Int.le_refl _
  | cons x l ih =>
    simp only [List.map_cons, List.sum_cons]
    have h1 := h x List.mem_cons_self
    have h2 := ih fun i hi => h i (List.mem_cons_of_mem _ hi)
    omega
theorem sum_add {l : List Nat} {f g : Nat → Int} : (l.map fun i => f i + g i).sum = (l.map f).sum + (l.map g).sum := by
  induction l with
  | nil => rfl
  | cons x l ih =>
    simp only [List.map_cons, List.sum_cons, ih]
    omega
/-- one number's worth -/
theorem sm_one {n : Nat} {f : Int → Int} {j : Int} (h0 : 0 ≤ j) (h1 : j < n) : sm n f (fun i => i == j) = f j := by
  have : ∀ m : Nat, sm m f (fun i => i == j) = if j < m then f j else 0 := fun m => by
    induction m with
    | zero => rw [if_neg (by omega)]; rfl
    | succ m ih =>
      unfold sm at ih ⊢
      rw [List.range_succ, List.map_append, List.sum_append, ih]
      simp only [List.map_cons, List.map_nil, List.sum_cons, List.sum_nil]
      by_cases e : (m : Int) = j
      · rw [if_neg (by omega), if_pos (by simpa using e), if_pos (by omega), e]; omega
      · rw [if_neg (c := ((m : Int) == j) = true) (by simpa using e)]
        by_cases l : j < m
        · rw [if_pos l, if_pos (by omega)]; omega
        · rw [if_neg l, if_neg (by omega)]; omega
  rw [this, if_pos h1]
/-- a list of unlike numbers -/
theorem sm_list {n : Nat} {f : Int → Int} : ∀ l : List Int, l.Nodup → (∀ o ∈ l, 0 ≤ o ∧ o < n) → sm n f (fun i => decide (i ∈ l)) = (l.map f).sum
  | [], _, _ => by
    unfold sm
    have : ∀ r : List Nat, (r.map fun (i : Nat) => if decide ((i : Int) ∈ ([] : List Int)) = true then f i else 0).sum = 0 := fun r => by
      induction r with
      | nil => rfl
      | cons x r ih => rw [List.map_cons, List.sum_cons, ih, if_neg (by simp)]; rfl
    exact this _
  | x :: l, nd, hb => by
    have ih := sm_list (n := n) (f := f) l (List.nodup_cons.mp nd).2 fun o ho => hb o (List.mem_cons_of_mem _ ho)
    obtain ⟨b0, b1⟩ := hb x List.mem_cons_self
    have e1 := sm_one (f := f) b0 b1
    rw [List.map_cons, List.sum_cons, ← ih, ← e1]
    unfold sm
    rw [← sum_add]
    congr 1
    refine List.map_congr_left fun i _ => ?_
    have hx := (List.nodup_cons.mp nd).1
    by_cases e : (i : Int) = x
    · subst e
      rw [if_pos (by simp), if_pos (by simp), if_neg (by simpa using hx)]; omega
    · rw [if_neg (c := ((i : Int) == x) = true) (by simpa using e)]
      by_cases m : (i : Int) ∈ l
      · rw [if_pos (by simp [m]), if_pos (by simp [m])]; omega
      · rw [if_neg (by simp [e, m]), if_neg (by simp [m])]; rfl
/-! the hours -/
theorem acc_sum (rows : Rows) : ∀ l : List Int, (acc rows l).1 = (l.map fun n => (atR rows n).1).sum := snoc_ind rfl fun l n ih => by
  rw [acc_snoc, List.map_append, List.sum_append, ← ih]
  simp
theorem acc_append (rows : Rows) (p : List Int) : ∀ q : List Int, ∃ r, (acc rows (p ++ q)).2 = (acc rows p).2 ++ r := snoc_ind ⟨[], by simp⟩ fun q n ih => by
  obtain ⟨r, e⟩ := ih
  rw [← List.append_assoc, acc_snoc]
  refine ⟨r ++ [(n, .int ((acc rows (p ++ q)).1 + (atR rows n).1))], ?_⟩
  rw [e, List.append_assoc]
theorem lookup_app {n : Int} {v : PV} : ∀ {l r : List (Int × PV)}, n ∉ l.map (·.1) → (l ++ (n, v) :: r).lookup n = some v
  | [], r, _ => by rw [List.nil_append, List.lookup_cons, beq_self_eq_true]
  | (m, w) :: l, r, h => by
    rw [List.cons_append, List.lookup_cons, show (n == m) = false from by simpa using (fun e => h (by simp [e])), lookup_app (l := l) fun z => h (by simp at z ⊢; exact .inr z)]
theorem rd_at {rows : Rows} {p q : List Int} {k : Int} (h : k ∉ p) : rd rows (p ++ k :: q) k = ((p ++ [k]).map fun n => (atR rows n).1).sum := by
  obtain ⟨r, e⟩ := acc_append rows (p ++ [k]) q
  have e1 : p ++ k :: q = (p ++ [k]) ++ q := by simp
  unfold rd
  rw [e1, e, acc_snoc, List.append_assoc, List.singleton_append, lookup_app (by rw [acc_keys]; exact h)]
  show (acc rows p).1 + (atR rows k).1 = _
  rw [acc_sum, List.map_append, List.sum_append]
  simp
def othS (rows : Rows) (S : List Int) : Int := sm rows.length (fun i => min (atR rows i).1 (bR rows i)) fun i => !decide (i ∈ S)
end Law

namespace Law
open PySem Z Com
def GoodSet (n : Int) (S : List Int) : Prop := S ≠ [] ∧ (∀ i ∈ S, 0 ≤ i ∧ i < n) ∧ S.Pairwise (· < ·)
theorem GoodSet.nd {n : Int} {S : List Int} (g : GoodSet n S) : S.Nodup := g.2.2.imp fun h => by omega
theorem nd_len {n : Nat} {S : List Int} (nd : S.Nodup) (hb : ∀ i ∈ S, 0 ≤ i ∧ i < (n : Int)) : S.length ≤ n := by
  have e := sm_list (n := n) (f := fun _ => 1) S nd hb
  have : ∀ l : List Int, (l.map fun _ => (1 : Int)).sum = l.length := fun l => by
    induction l with
    | nil => rfl
    | cons x l ih => simp only [List.map_cons, List.sum_cons, ih, List.length_cons]; omega
  rw [this] at e
  have q : sm n (fun _ => 1) (fun i => decide (i ∈ S)) ≤ ((List.range n).map fun _ => (1 : Int)).sum := sum_le fun i _ => by
    show (if decide ((i : Int) ∈ S) = true then (1 : Int) else 0) ≤ 1
    split <;> omega
  have q2 : ∀ m : Nat, ((List.range m).map fun _ => (1 : Int)).sum = m := fun m => by
    induction m with
    | zero => rfl
    | succ m ih => rw [List.range_succ, List.map_append, List.sum_append, ih]; simp
  rw [q2] at q
  omega
end Law

/-! k42qb: sets of anything -/
namespace Law
open PySem Z Com
theorem eqW_iempty {h : Hep} {xs : List PV} {ds : List PyData} {K : Bool → Prop} (e : datAll (dat h 59) xs = some ds) (l : PyData.canLayAll0 ds = true) (k : K xs.isEmpty) : eqW h (.tup xs) (.itp []) K := by
  refine eqW_of (d := .tuple ds) (e := .tuple []) ?_ rfl l rfl ?_
  · show (datAll (dat h 59) xs).map PyData.tuple = _
    rw [e]
    rfl
  · have q : PyData.eqv (.tuple ds) (.tuple []) = xs.isEmpty := by
      cases xs with
      | nil => cases e; rfl
      | cons x xs =>
        rw [datAll] at e
        split at e
        · cases e; rfl
        · cases e
    rw [q]
    exact k
def gp_is_set : Z.Spec := fun args h F _ => ∃ (S : List Int) (n : Nat), args = [.tup (S.map PV.int), .int n] ∧ n ≤ 1000 ∧ GoodSet n S ∧ ∀ h', Ext h h' → F (.bl true) h'
/-- what is no tuple -/
def NoTup (h : Hep) : PV → Prop
  | .non => True | .bl _ => True | .int _ => True | .str _ => True
  | .ref r => ∃ o, h[r]? = some o ∧ IsLD o
  | _ => False
def NoSet (h : Hep) (n : Int) (v : PV) : Prop := NoTup h v ∨ v = .itp [] ∨ ∃ (xs : List PV) (ds : List PyData), v = .tup xs ∧ xs.length ≤ 1000 ∧ (∀ x ∈ xs, Thg h x) ∧ (∀ h', Ext h h' → datAll (dat h' 59) xs = some ds) ∧ PyData.canLayAll0 ds = true ∧ ((∃ x ∈ xs, amV 0 (n - 1) x = false) ∨ ∃ a b : Int, xs = [.int a, .int b] ∧ b ≤ a)
theorem NoSet.ext {h h' : Hep} {n : Int} {v : PV} (b : NoSet h n v) (X : Ext h h') : NoSet h' n v := by
  rcases b with b | b | ⟨xs, ds, e, l, t, d, c, w⟩
  · left
    cases v <;> first | trivial | exact b | skip
    obtain ⟨o, e, l⟩ := b
    exact ⟨o, X _ _ e, l⟩
  · exact .inr (.inl b)
  · exact .inr (.inr ⟨xs, ds, e, l, fun x m => (t x m).ext X, fun h2 X2 => d h2 (X.trans X2), c, w⟩)
def sp_is_set : Z.Spec := fun args h F E => gp_is_set args h F E ∨ ∃ (v : PV) (n : Int), args = [v, .int n] ∧ NoSet h n v ∧ ∀ h', Ext h h' → F (.bl false) h'
theorem NS {args : List PV} {h : Hep} {F : KQ} {E : KX} (x : gp_is_set args h F E) : sp_is_set args h F E := .inl x
theorem mt_is_set : Meets [sp_is_among] 4 2 ir_is_set sp_is_set := by
  rintro args h F E (⟨S, n, rfl, hn, g, kf⟩ | ⟨v, n, rfl, b, kf⟩)
  · refine ⟨rfl, ?_⟩
    unfold ir_is_set
    have sl := nd_len g.nd g.2.1
    have ne : (S.map PV.int).isEmpty = false := by cases S with
      | nil => exact absurd rfl g.1
      | cons _ _ => rfl
    show wSs _ _ [some _, some _, none, none] h _
    refine wSs_step ?_; simp_arith []
    refine eqW_iempty (datAll_ints (dat_int h 59) S) (lay_ints S) ?_
    rw [ne]
    simp_arith []
    refine wComp_map (fun _ => .bl true) _ (fun _ _ => trivial) (fun x hx h' ex => ⟨_, rfl, fun G hG => ?_⟩) (by rw [List.length_map]; show S.length ≤ 16777216; omega) fun h' ex => ?_
    · obtain ⟨i, hi, rfl⟩ := List.mem_map.mp hx
      obtain ⟨b1, b2⟩ := g.2.1 i hi
      simp_arith []
      exact among_int b1 (by omega) (hG _ ex)
    · simp_arith [new_get, boolsOf_const, all_const]
      refine wSs_step ?_; simp_arith []
      refine ⟨by omega, by omega, ?_⟩
      refine wComp_map (h := h' ++ _) (fun _ => .bl true) _ (fun _ _ => trivial) (fun x hx h2 ex2 => ⟨_, rfl, fun G hG => ?_⟩) (by unfold rngL; rw [List.length_map, List.length_range]; show _ ≤ 16777216; omega) fun h2 ex2 => ?_
      · unfold rngL at hx
        obtain ⟨i, hi, rfl⟩ := List.mem_map.mp hx
        have hi := List.mem_range.mp hi
        have l1 : i + 1 < S.length := by omega
        have e1 : ixN S.length (0 + (i : Int)) = some i := by rw [Int.zero_add]; exact ixN_nat (by omega)
        have e2 : ixN S.length (0 + (i : Int) + 1) = some (i + 1) := by rw [show (0 + (i : Int) + 1) = ((i + 1 : Nat) : Int) by omega]; exact ixN_nat l1
        have lt : S[i] < S[i + 1] := List.pairwise_iff_getElem.mp g.2.2 i (i + 1) (by omega) l1 (by omega)
        simp_arith [e1, e2, List.getElem?_eq_getElem (show i < S.length by omega), List.getElem?_eq_getElem l1, lt]
        exact hG _ ex2
      · simp_arith [new_get, boolsOf_const, all_const]
        exact kf _ (((ex.trans .app).trans ex2).trans .app)
  · refine ⟨rfl, ?_⟩
    unfold ir_is_set
    show wSs _ _ [some _, some _, none, none] h _
    have k0 := kf h .rfl'
    rcases b with b | rfl | ⟨xs, ds, rfl, lx, t, dd, lay, c⟩
    · cases v with
      | ref r =>
        obtain ⟨o, e, l⟩ := b
        cases o with
        | lst xs => refine wSs_step ?_; simp_arith [e]; exact k0
        | dic xs => refine wSs_step ?_; simp_arith [e]; exact k0
        | _ => exact l.elim
      | non => refine wSs_step ?_; simp_arith []; exact k0
      | bl => refine wSs_step ?_; simp_arith []; exact k0
      | int => refine wSs_step ?_; simp_arith []; exact k0
      | str => refine wSs_step ?_; simp_arith []; exact k0
      | _ => exact b.elim
    · refine wSs_step ?_; simp_arith []
      refine eqW_of (d := .tuple []) (e := .tuple []) rfl rfl rfl rfl ?_
      rw [show PyData.eqv (.tuple []) (.tuple []) = true from rfl]
      try simp_arith []
      exact k0
    · refine wSs_step ?_; simp_arith []
      refine eqW_iempty (dd h .rfl') lay ?_
      have ne : xs.isEmpty = false := by
        rcases c with ⟨x, m, _⟩ | ⟨a, b, rfl, _⟩
        · cases xs with
          | nil => cases m
          | cons _ _ => rfl
        · rfl
      rw [ne]
      simp_arith []
      refine wComp_map (fun x => .bl (amV 0 (n - 1) x)) _ (fun _ _ => trivial) (fun x hx h' X => ⟨_, rfl, fun G hG => ?_⟩) (by show xs.length ≤ 16777216; omega) fun h' X => ?_
      · simp_arith []
        exact am_any ((t x hx).ext X) (hG _ X)
      · simp_arith [new_get, bools_of]
        by_cases c2 : ∃ x ∈ xs, amV 0 (n - 1) x = false
        · obtain ⟨x, mx, ex⟩ := c2
          rw [all_no mx ex]
          simp_arith []
          exact kf _ (X.trans .app)
        · have ay : ∀ x ∈ xs, amV 0 (n - 1) x = true := fun x m => by
            cases q : amV 0 (n - 1) x with
            | true => rfl
            | false => exact absurd ⟨x, m, q⟩ c2
          obtain ⟨a, b, rfl, ba⟩ : ∃ a b : Int, xs = [.int a, .int b] ∧ b ≤ a := by
            rcases c with c | c
            · exact absurd c c2
            · exact c
          rw [all_yes ay]
          simp_arith []
          refine wSs_step ?_; simp_arith []
          have nl : ¬ a < b := by omega
          refine ⟨by decide, by decide, ?_⟩
          refine wComp_map (h := h' ++ _) (fun _ => .bl false) _ (fun _ _ => trivial) (fun x hx h2 ex2 => ⟨_, rfl, fun G hG => ?_⟩) (by decide) fun h2 ex2 => ?_
          · obtain rfl : x = .int 0 := by
              unfold rngL at hx
              obtain ⟨i, hi, rfl⟩ := List.mem_map.mp hx
              have hi : i < 1 := List.mem_range.mp hi
              obtain rfl : i = 0 := by omega
              rfl
            have i20 : ixN 2 0 = some 0 := rfl
            have i21 : ixN 2 (0 + 1) = some 1 := rfl
            simp_arith [i20, i21, nl]
            exact hG _ ex2
          · have e : (rngL 0 (2 - 1 : Int).toNat).map (fun _ => PV.bl false) = [PV.bl false] := rfl
            simp_arith [new_get, e, boolsOf]
            exact kf _ (((X.trans .app).trans ex2).trans .app)
end Law

namespace Law
open PySem Z Com
def sideS (fr : Bool) : Str := if fr = true then Str.ofString "front" else Str.ofString "back"
theorem inL_side {h : Hep} {fr : Bool} {K : Bool → Prop} (k : K true) : inL h (.str (sideS fr)) [.str (Str.ofString "front"), .str (Str.ofString "back")] K := by
  refine ⟨.str (sideS fr), [.str (Str.ofString "front"), .str (Str.ofString "back")], rfl, by cases fr <;> decide +kernel, rfl, by decide +kernel, ?_⟩
  rw [show ([PyData.str (Str.ofString "front"), .str (Str.ofString "back")].any fun e => PyData.eqv e (.str (sideS fr))) = true by cases fr <;> decide +kernel]
  exact k
theorem eqW_front {h : Hep} {fr : Bool} {K : Bool → Prop} (k : K fr) : eqW h (.str (sideS fr)) (.str (Str.ofString "front")) K := by
  refine eqW_of rfl rfl (by cases fr <;> decide +kernel) (by decide +kernel) ?_
  rw [show PyData.eqv (.str (sideS fr)) (.str (Str.ofString "front")) = fr by cases fr <;> decide +kernel]
  exact k
def aR (rows : Rows) (n : Int) : Int := (atR rows n).1
def sb (rows : Rows) (fr : Bool) (S : List Int) : Int := if fr = true then othS rows S + minL (S.map (aR rows)) + (S.map (bR rows)).sum else othS rows S + (S.map (aR rows)).sum + minL (S.map (bR rows))
/-! the others' sum, as it is reckoned -/
def oP (S : List Int) : PV → Bool
  | .tup [.int i, _] => !decide (i ∈ S)
  | _ => false
def oF : PV → PV
  | .tup [_, .tup [.int a, .int b]] => .int (min a b)
  | _ => .non
theorem mem_enumL {x : PV} : ∀ {l : List PV} {i : Nat}, x ∈ enumL i l → ∃ (k : Nat) (hk : k < l.length), x = .tup [.int ((i + k : Nat) : Int), l[k]]
  | y :: l, i, h => by
    rcases List.mem_cons.mp h with h | h
    · exact ⟨0, by simp, h⟩
    · obtain ⟨k, hk, e⟩ := mem_enumL (l := l) h
      exact ⟨k + 1, by simp; exact hk, by rw [e, show i + 1 + k = i + (k + 1) by omega]; rfl⟩
theorem oth_list (S : List Int) : ∀ (l : Rows) (i : Nat), ∃ ns : List Int, ((enumL i (l.map pairV)).filter (oP S)).map oF = ns.map PV.int ∧
    ns.sum = ((List.range l.length).map fun (k : Nat) => if (!decide (((i + k : Nat) : Int) ∈ S)) = true then min ((l[k]?).getD (0, 0)).1 ((l[k]?).getD (0, 0)).2 else 0).sum
  | [], i => ⟨[], rfl, rfl⟩
  | r :: l, i => by
    obtain ⟨ns, e1, e2⟩ := oth_list S l (i + 1)
    have es : ((List.range (r :: l).length).map fun (k : Nat) => if (!decide (((i + k : Nat) : Int) ∈ S)) = true then min (((r :: l)[k]?).getD (0, 0)).1 (((r :: l)[k]?).getD (0, 0)).2 else 0).sum = (if (!decide ((i : Int) ∈ S)) = true then min r.1 r.2 else 0) + ns.sum := by
      rw [List.length_cons, List.range_succ_eq_map, List.map_cons, List.sum_cons, List.map_map, e2]
      congr 2
      refine List.map_congr_left fun k _ => ?_
      show (if (!decide (((i + (k + 1) : Nat) : Int) ∈ S)) = true then _ else _) = _
      rw [show i + (k + 1) = i + 1 + k by omega]
      rfl
    rw [es]
    cases hp : !decide ((i : Int) ∈ S) with
    | true =>
      refine ⟨min r.1 r.2 :: ns, ?_, by simp⟩
      show List.map oF (List.filter (oP S) (.tup [.int i, pairV r] :: enumL (i + 1) (l.map pairV))) = _
      rw [List.filter_cons_of_pos (by exact hp), List.map_cons, e1]
      rfl
    | false =>
      refine ⟨ns, ?_, by simp⟩
      show List.map oF (List.filter (oP S) (.tup [.int i, pairV r] :: enumL (i + 1) (l.map pairV))) = _
      rw [List.filter_cons_of_neg (by rw [show oP S (.tup [.int i, pairV r]) = !decide ((i : Int) ∈ S) from rfl, hp]; decide), e1]
theorem oth_is (rows : Rows) (S : List Int) : ∃ ns : List Int, ((enumL 0 (rows.map pairV)).filter (oP S)).map oF = ns.map PV.int ∧ ns.sum = othS rows S := by
  obtain ⟨ns, e1, e2⟩ := oth_list S rows 0
  refine ⟨ns, e1, ?_⟩
  rw [e2]
  unfold othS sm
  congr 1
  refine List.map_congr_left fun k _ => ?_
  rw [Nat.zero_add]
  rfl
theorem minL_two (a b : Int) : minL [a, b] = min a b := rfl
def aF (rows : Rows) : PV → PV
  | .int n => .int (aR rows n)
  | _ => .non
def bF' (rows : Rows) : PV → PV
  | .int n => .int (bR rows n)
  | _ => .non
theorem aF_map (rows : Rows) (l : List Int) : (l.map PV.int).map (aF rows) = (l.map (aR rows)).map PV.int := by rw [List.map_map, List.map_map]; rfl
theorem bF'_map (rows : Rows) (l : List Int) : (l.map PV.int).map (bF' rows) = (l.map (bR rows)).map PV.int := by rw [List.map_map, List.map_map]; rfl
def gp_set_bound : Z.Spec := fun args h F _ => ∃ (a : Nat) (rows : Rows) (fr : Bool) (S : List Int), args = [.ref a, .str (sideS fr), .tup (S.map PV.int)] ∧ h[a]? = some (.lst (rows.map pairV)) ∧ 1 ≤ rows.length ∧ rows.length ≤ 30 ∧ (∀ p ∈ rows, GoodRow p) ∧ GoodSet rows.length S ∧ ∀ h', Ext h h' → F (.int (sb rows fr S)) h'
theorem gd_set_bound : Meets [sp_need_pairs, sp_is_set, noS] 8 3 ir_set_bound gp_set_bound := by
  rintro args h F E ⟨a, rows, fr, S, rfl, ea, l1, l2, good, gs, kf⟩
  refine ⟨rfl, ?_⟩
  unfold ir_set_bound
  have sl := nd_len gs.nd gs.2.1
  refine wSs_step ?_; simp_arith []
  refine NP ⟨a, rows, rfl, ea, l1, l2, good, fun h1 x1 => ?_⟩
  have ea1 := x1 _ _ ea
  refine wSs_step ?_; simp_arith []
  refine inL_side ?_
  simp_arith [ea1]
  refine NS ⟨S, rows.length, rfl, by omega, gs, fun h2 x2 => ?_⟩
  have ea2 := x2 _ _ ea1
  simp_arith []
  refine wSs_step ?_; simp_arith [ea2]
  obtain ⟨os, eo, so⟩ := oth_is rows S
  have el : (enumL 0 (rows.map pairV)).length = rows.length := by rw [enumL_len, List.length_map]
  refine wComp_filter (oP S) oF _ (fun h' x => ⟨x _ _ ea2, trivial⟩) (fun x hx h' ex => ?_) (fun x hx h' ex σ' es px G hG => ?_) (by rw [el]; show rows.length ≤ 16777216; omega) fun h3 x3 => ?_
  · obtain ⟨k, hk, rfl⟩ := mem_enumL hx
    refine ⟨_, rfl, fun G hG => ?_⟩
    simp_arith []
    refine inL_ints ?_
    have q := hG _ ex
    rw [Nat.zero_add] at q
    exact q
  · obtain ⟨k, hk, rfl⟩ := mem_enumL hx
    rw [List.getElem_map] at es hG
    cases es
    simp_arith [pairV, intsOf, minL_two]
    exact hG _ ex
  · rw [eo]
    have ea3 := x3 _ _ ea2
    simp_arith [new_get, intsOf_map, so]
    have getR : ∀ (h' : Hep), Ext h3 h' → ∀ n ∈ S, h'[a]? = some (.lst (rows.map pairV)) ∧ ixN rows.length n = some n.toNat ∧ rows[n.toNat]? = some (atR rows n) := fun h' x n hn => ⟨x _ _ ea3, ixN_int (gs.2.1 n hn).1 (gs.2.1 n hn).2, rows_get (gs.2.1 n hn).1 (gs.2.1 n hn).2⟩
    refine wSs_step ?_; simp_arith []
    refine wComp_map (h := h3 ++ _) (aF rows) _ (fun _ _ => trivial) (fun x hx h4 x4 => ⟨_, rfl, fun G hG => ?_⟩) (by rw [List.length_map]; show S.length ≤ 16777216; omega) fun h4 x4 => ?_
    · obtain ⟨n, hn, rfl⟩ := List.mem_map.mp hx
      obtain ⟨g1, g2, g3⟩ := getR h4 (Ext.app.trans x4) n hn
      simp_arith [g1, g2, g3, pairV]
      exact hG _ x4
    · rw [aF_map]
      refine wSs_step ?_; simp_arith []
      refine wComp_map (h := h4 ++ _) (bF' rows) _ (fun _ _ => trivial) (fun x hx h5 x5 => ⟨_, rfl, fun G hG => ?_⟩) (by rw [List.length_map]; show S.length ≤ 16777216; omega) fun h5 x5 => ?_
      · obtain ⟨n, hn, rfl⟩ := List.mem_map.mp hx
        obtain ⟨g1, g2, g3⟩ := getR h5 ((Ext.app.trans x4).trans (Ext.app.trans x5)) n hn
        simp_arith [g1, g2, g3, pairV]
        exact hG _ x5
      · rw [bF'_map]
        have e6 := app_get (j := [Ob.lst ((S.map (bR rows)).map PV.int)]) (x5 _ _ new_get)
        have hh : Ext h h5 := (((x1.trans x2).trans x3).trans (Ext.app.trans x4)).trans (Ext.app.trans x5)
        have na : S.map (aR rows) ≠ [] := by intro z; exact gs.1 (List.map_eq_nil_iff.mp z)
        have nb : S.map (bR rows) ≠ [] := by intro z; exact gs.1 (List.map_eq_nil_iff.mp z)
        refine wSs_step ?_; simp_arith []
        refine eqW_front ?_
        have k := kf _ (hh.trans (.app (j := [Ob.lst ((S.map (bR rows)).map PV.int)])))
        cases fr with
        | true =>
          simp_arith [e6, new_get, intsOf_map, na]
          exact k
        | false =>
          simp_arith [e6, new_get, intsOf_map, nb]
          exact k
end Law

/-! the order of two machines: the plain law -/
namespace Law
open PySem Z Com
def frL : Nat → Rows → List (Int × Int)
  | _, [] => []
  | i, r :: l => if r.1 ≤ r.2 then (r.1, (i : Int)) :: frL (i + 1) l else frL (i + 1) l
def bkL : Nat → Rows → List (Int × Int)
  | _, [] => []
  | i, r :: l => if r.2 < r.1 then (0 - r.2, (i : Int)) :: bkL (i + 1) l else bkL (i + 1) l
theorem frL_mem : ∀ {l : Rows} {i : Nat} {p : Int × Int}, p ∈ frL i l → ∃ j r, p = (r.1, ((i + j : Nat) : Int)) ∧ l[j]? = some r ∧ r.1 ≤ r.2
  | r :: l, i, p, h => by
    unfold frL at h
    split at h
    · rename_i c
      rcases List.mem_cons.mp h with h | h
      · exact ⟨0, r, by simpa using h, rfl, c⟩
      · obtain ⟨j, q, e1, e2, e3⟩ := frL_mem h
        exact ⟨j + 1, q, by rw [e1, show i + 1 + j = i + (j + 1) by omega], by simpa using e2, e3⟩
    · obtain ⟨j, q, e1, e2, e3⟩ := frL_mem h
      exact ⟨j + 1, q, by rw [e1, show i + 1 + j = i + (j + 1) by omega], by simpa using e2, e3⟩
theorem bkL_mem : ∀ {l : Rows} {i : Nat} {p : Int × Int}, p ∈ bkL i l → ∃ j r, p = (0 - r.2, ((i + j : Nat) : Int)) ∧ l[j]? = some r ∧ r.2 < r.1
  | r :: l, i, p, h => by
    unfold bkL at h
    split at h
    · rename_i c
      rcases List.mem_cons.mp h with h | h
      · exact ⟨0, r, by simpa using h, rfl, c⟩
      · obtain ⟨j, q, e1, e2, e3⟩ := bkL_mem h
        exact ⟨j + 1, q, by rw [e1, show i + 1 + j = i + (j + 1) by omega], by simpa using e2, e3⟩
    · obtain ⟨j, q, e1, e2, e3⟩ := bkL_mem h
      exact ⟨j + 1, q, by rw [e1, show i + 1 + j = i + (j + 1) by omega], by simpa using e2, e3⟩
theorem frL_nd : ∀ (l : Rows) (i : Nat), ((frL i l).map (·.2)).Nodup
  | [], i => List.nodup_nil
  | r :: l, i => by
    unfold frL
    split
    · rw [List.map_cons, List.nodup_cons]
      refine ⟨fun z => ?_, frL_nd l (i + 1)⟩
      obtain ⟨p, hp, e⟩ := List.mem_map.mp z
      obtain ⟨j, q, e1, _⟩ := frL_mem hp
      rw [e1] at e
      have : ((i + 1 + j : Nat) : Int) = (i : Int) := e
      omega
    · exact frL_nd l (i + 1)
theorem bkL_nd : ∀ (l : Rows) (i : Nat), ((bkL i l).map (·.2)).Nodup
  | [], i => List.nodup_nil
  | r :: l, i => by
    unfold bkL
    split
    · rw [List.map_cons, List.nodup_cons]
      refine ⟨fun z => ?_, bkL_nd l (i + 1)⟩
      obtain ⟨p, hp, e⟩ := List.mem_map.mp z
      obtain ⟨j, q, e1, _⟩ := bkL_mem hp
      rw [e1] at e
      have : ((i + 1 + j : Nat) : Int) = (i : Int) := e
      omega
    · exact bkL_nd l (i + 1)
theorem fb_all : ∀ (l : Rows) (i j : Nat), j < l.length → ((i + j : Nat) : Int) ∈ (frL i l).map (·.2) ∨ ((i + j : Nat) : Int) ∈ (bkL i l).map (·.2)
  | r :: l, i, 0, _ => by
    unfold frL bkL
    by_cases c : r.1 ≤ r.2
    · rw [if_pos c]; exact .inl (by simp)
    · rw [if_neg c, if_pos (by omega)]; exact .inr (by simp)
  | r :: l, i, j + 1, h => by
    have ih := fb_all l (i + 1) j (by simpa using h)
    rw [show i + 1 + j = i + (j + 1) by omega] at ih
    unfold frL bkL
    rcases ih with ih | ih
    · left; split
      · exact List.mem_cons_of_mem _ ih
      · exact ih
    · right; split
      · exact List.mem_cons_of_mem _ ih
      · exact ih
theorem fb_len : ∀ (l : Rows) (i : Nat), (frL i l).length + (bkL i l).length = l.length
  | [], i => rfl
  | r :: l, i => by
    have ih := fb_len l (i + 1)
    unfold frL bkL
    by_cases c : r.1 ≤ r.2
    · rw [if_pos c, if_neg (by omega)]; simp only [List.length_cons]; omega
    · rw [if_neg c, if_pos (by omega)]; simp only [List.length_cons]; omega
def front (rows : Rows) : List Int := (srtP (frL 0 rows)).map (·.2)
def back (rows : Rows) : List Int := (srtP (bkL 0 rows)).map (·.2)
def jo (rows : Rows) : List Int := front rows ++ back rows
theorem atR_nat {rows : Rows} {j : Nat} {r : Int × Int} (e : rows[j]? = some r) : atR rows (j : Int) = r := by
  unfold atR
  rw [Int.toNat_natCast, e]; rfl
theorem front_mem {rows : Rows} {k : Int} (h : k ∈ front rows) : 0 ≤ k ∧ k < rows.length ∧ aR rows k ≤ bR rows k := by
  obtain ⟨p, hp, rfl⟩ := List.mem_map.mp h
  obtain ⟨j, r, rfl, e, c⟩ := frL_mem ((srtP_perm _).mem_iff.mp hp)
  have := (List.getElem?_eq_some_iff.mp e).1
  rw [Nat.zero_add]
  show 0 ≤ (j : Int) ∧ (j : Int) < rows.length ∧ aR rows (j : Int) ≤ bR rows (j : Int)
  unfold aR bR
  rw [atR_nat e]
  exact ⟨by omega, by omega, c⟩
theorem back_mem {rows : Rows} {k : Int} (h : k ∈ back rows) : 0 ≤ k ∧ k < rows.length ∧ bR rows k < aR rows k := by
  obtain ⟨p, hp, rfl⟩ := List.mem_map.mp h
  obtain ⟨j, r, rfl, e, c⟩ := bkL_mem ((srtP_perm _).mem_iff.mp hp)
  have := (List.getElem?_eq_some_iff.mp e).1
  rw [Nat.zero_add]
  show 0 ≤ (j : Int) ∧ (j : Int) < rows.length ∧ bR rows (j : Int) < aR rows (j : Int)
  unfold aR bR
  rw [atR_nat e]
  exact ⟨by omega, by omega, c⟩
theorem front_up (rows : Rows) : (front rows).Pairwise fun i j => aR rows i ≤ aR rows j := by
  unfold front
  rw [List.pairwise_map]
  refine List.Pairwise.imp_of_mem (fun {p q} hp hq h => ?_) (srtP_sorted (frL 0 rows))
  obtain ⟨j, r, rfl, e, c⟩ := frL_mem ((srtP_perm _).mem_iff.mp hp)
  obtain ⟨j', r', rfl, e', c'⟩ := frL_mem ((srtP_perm _).mem_iff.mp hq)
  rw [Nat.zero_add, Nat.zero_add] at h ⊢
  show aR rows (j : Int) ≤ aR rows (j' : Int)
  unfold aR
  rw [atR_nat e, atR_nat e']
  rcases h with h | h
  · have : r.1 < r'.1 := h; omega
  · have : r.1 = r'.1 := h.1; omega
theorem back_down (rows : Rows) : (back rows).Pairwise fun i j => bR rows j ≤ bR rows i := by
  unfold back
  rw [List.pairwise_map]
  refine List.Pairwise.imp_of_mem (fun {p q} hp hq h => ?_) (srtP_sorted (bkL 0 rows))
  obtain ⟨j, r, rfl, e, c⟩ := bkL_mem ((srtP_perm _).mem_iff.mp hp)
  obtain ⟨j', r', rfl, e', c'⟩ := bkL_mem ((srtP_perm _).mem_iff.mp hq)
  rw [Nat.zero_add, Nat.zero_add] at h ⊢
  show bR rows (j' : Int) ≤ bR rows (j : Int)
  unfold bR
  rw [atR_nat e, atR_nat e']
  rcases h with h | h
  · have : 0 - r.2 < 0 - r'.2 := h; omega
  · have : 0 - r.2 = 0 - r'.2 := h.1; omega
theorem jo_good (rows : Rows) : GoodOrder rows.length (jo rows) := by
  refine ⟨?_, ?_, fun o ho => ?_, fun i h0 h1 => ?_⟩
  · have := fb_len rows 0
    unfold jo front back
    rw [List.length_append, List.length_map, List.length_map, (srtP_perm _).length_eq, (srtP_perm _).length_eq]
    omega
  · unfold jo
    rw [List.nodup_append]
    refine ⟨((srtP_perm _).map _).nodup_iff.mpr (frL_nd rows 0), ((srtP_perm _).map _).nodup_iff.mpr (bkL_nd rows 0), fun x hx y hy e => ?_⟩
    subst e
    have := (front_mem hx).2.2
    have := (back_mem hy).2.2
    omega
  · rcases List.mem_append.mp ho with h | h
    · exact ⟨(front_mem h).1, (front_mem h).2.1⟩
    · exact ⟨(back_mem h).1, (back_mem h).2.1⟩
  · have q := fb_all rows 0 i.toNat (by omega)
    rw [Nat.zero_add, show ((i.toNat : Nat) : Int) = i by omega] at q
    rcases q with q | q
    · exact List.mem_append_left _ (((srtP_perm _).map _).mem_iff.mpr q)
    · exact List.mem_append_right _ (((srtP_perm _).map _).mem_iff.mpr q)
/-! ### what a cut of the order shows -/
theorem minL_least {l : List Int} {x : Int} (h : x ∈ l) (h2 : ∀ y ∈ l, x ≤ y) : minL l = x := by
  obtain ⟨m1, m2⟩ := minL_mem l (by intro z; rw [z] at h; cases h)
  have := m2 x h
  have := h2 _ m1
  omega
theorem oth_of {rows : Rows} {S X Y Z : List Int} (g : GoodOrder rows.length (X ++ Y ++ Z)) (hS : ∀ i, i ∈ S ↔ i ∈ Y) : othS rows S = ((X ++ Z).map fun i => min (aR rows i) (bR rows i)).sum := by
  have nd := g.2.1
  have ndXZ : (X ++ Z).Nodup := by
    rw [List.append_assoc] at nd
    obtain ⟨n1, n2, n3⟩ := List.nodup_append.mp nd
    obtain ⟨n4, n5, n6⟩ := List.nodup_append.mp n2
    rw [List.nodup_append]
    exact ⟨n1, n5, fun x hx y hy => n3 x hx y (List.mem_append_right _ hy)⟩
  have yes : ∀ i : Int, 0 ≤ i → i < rows.length → (i ∉ S ↔ i ∈ X ++ Z) := fun i h0 h1 => by
    have hm := g.2.2.2 i h0 h1
    rw [hS]
    simp only [List.mem_append] at hm ⊢
    rw [List.append_assoc] at nd
    obtain ⟨n1, n2, n3⟩ := List.nodup_append.mp nd
    obtain ⟨n4, n5, n6⟩ := List.nodup_append.mp n2
    constructor
    · intro hn
      rcases hm with (h | h) | h
      · exact .inl h
      · exact absurd h hn
      · exact .inr h
    · intro h hy
      rcases h with h | h
      · exact n3 i h i (List.mem_append_left _ hy) rfl
      · exact n6 i hy i h rfl
  rw [← sm_list (n := rows.length) (X ++ Z) ndXZ fun o ho => g.2.2.1 o (by simp only [List.mem_append] at ho ⊢; rcases ho with h | h; exact .inl (.inl h); exact .inr h)]
  unfold othS sm
  congr 1
  refine List.map_congr_left fun k hk => ?_
  have hk := List.mem_range.mp hk
  have y := yes k (by omega) (by omega)
  show (if (!decide ((k : Int) ∈ S)) = true then min (atR rows k).1 (bR rows k) else 0) = if decide ((k : Int) ∈ X ++ Z) = true then min (aR rows k) (bR rows k) else 0
  by_cases m : (k : Int) ∈ S
  · rw [if_neg (by simp [m]), if_neg (by simp only [decide_eq_true_eq]; exact fun z => (y.mpr z) m)]
  · rw [if_pos (by simp [m]), if_pos (by simp only [decide_eq_true_eq]; exact y.mp m)]; rfl
theorem sum_min_a {rows : Rows} : ∀ {l : List Int}, (∀ i ∈ l, aR rows i ≤ bR rows i) → (l.map fun i => min (aR rows i) (bR rows i)).sum = (l.map (aR rows)).sum
  | [], _ => rfl
  | x :: l, h => by
    simp only [List.map_cons, List.sum_cons]
    rw [sum_min_a fun i hi => h i (List.mem_cons_of_mem _ hi)]
    have := h x List.mem_cons_self
    omega
theorem sum_min_b {rows : Rows} : ∀ {l : List Int}, (∀ i ∈ l, bR rows i < aR rows i) → (l.map fun i => min (aR rows i) (bR rows i)).sum = (l.map (bR rows)).sum
  | [], _ => rfl
  | x :: l, h => by
    simp only [List.map_cons, List.sum_cons]
    rw [sum_min_b fun i hi => h i (List.mem_cons_of_mem _ hi)]
    have := h x List.mem_cons_self
    omega
theorem sum_perm {l m : List Int} (f : Int → Int) (p : l.Perm m) : (l.map f).sum = (m.map f).sum := by
  induction p with
  | nil => rfl
  | cons x _ ih => simp only [List.map_cons, List.sum_cons, ih]
  | swap x y l => simp only [List.map_cons, List.sum_cons]; omega
  | trans _ _ a b => exact a.trans b
/-- what the last place shows -/
def cutS (rows : Rows) (o : List Int) (p : Nat) : Int := ((o.take (p + 1)).map (aR rows)).sum + ((o.drop p).map (bR rows)).sum
def setOf (rows : Rows) (p : Nat) : List Int := if p < (front rows).length then srtI ((front rows).drop p) else srtI ((back rows).take (p - (front rows).length + 1))
theorem srtI_mem {L : List Int} {i : Int} : i ∈ srtI L ↔ i ∈ L := (srtI_perm L).mem_iff
theorem srtI_lt {L : List Int} (nd : L.Nodup) : (srtI L).Pairwise (· < ·) := by
  have n2 := (srtI_perm L).nodup_iff.mpr nd
  have := (srtI_sorted L).and n2
  exact this.imp fun ⟨h1, h2⟩ => by omega
theorem setOf_good {rows : Rows} {p : Nat} (hp : p < rows.length) : GoodSet rows.length (setOf rows p) := by
  have g := jo_good rows
  have nd := List.nodup_append.mp g.2.1
  have hl := g.1
  unfold jo at hl
  rw [List.length_append] at hl
  unfold setOf
  split
  · rename_i c
    refine ⟨fun z => ?_, fun i hi => ?_, srtI_lt ((List.drop_sublist _ _).nodup nd.1)⟩
    · have := congrArg List.length z
      rw [(srtI_perm _).length_eq, List.length_drop] at this
      simp at this; omega
    · have := front_mem (List.mem_of_mem_drop (srtI_mem.mp hi))
      exact ⟨this.1, this.2.1⟩
  · rename_i c
    refine ⟨fun z => ?_, fun i hi => ?_, srtI_lt ((List.take_sublist _ _).nodup nd.2.1)⟩
    · have := congrArg List.length z
      rw [(srtI_perm _).length_eq, List.length_take, List.length_nil] at this
      omega
    · have := back_mem (List.mem_of_mem_take (srtI_mem.mp hi))
      exact ⟨this.1, this.2.1⟩
theorem set_shows {rows : Rows} {p : Nat} (hp : p < rows.length) : sb rows (decide (p < (front rows).length)) (setOf rows p) = cutS rows (jo rows) p := by
  have g := jo_good rows
  have hl := g.1
  unfold sb setOf cutS
  by_cases c : p < (front rows).length
  · rw [if_pos (by simpa using c), if_pos c]
    have e : jo rows = (front rows).take p ++ (front rows).drop p ++ back rows := by rw [List.take_append_drop]; rfl
    rw [oth_of (X := (front rows).take p) (Y := (front rows).drop p) (Z := back rows) (by rw [← e]; exact g) fun i => srtI_mem]
    rw [List.map_append, List.sum_append, sum_min_a (fun i hi => (front_mem (List.mem_of_mem_take hi)).2.2), sum_min_b (fun i hi => (back_mem hi).2.2), sum_perm (bR rows) (srtI_perm _)]
    have hd : (front rows).drop p = (front rows)[p] :: (front rows).drop (p + 1) := List.drop_eq_getElem_cons c
    have m : minL ((srtI ((front rows).drop p)).map (aR rows)) = aR rows (front rows)[p] := by
      refine minL_least (List.mem_map_of_mem (srtI_mem.mpr (by rw [hd]; exact List.mem_cons_self))) fun y hy => ?_
      obtain ⟨i, hi, rfl⟩ := List.mem_map.mp hy
      have hi := srtI_mem.mp hi
      rw [hd] at hi
      rcases List.mem_cons.mp hi with rfl | hi
      · exact Int.le_refl _
      · have := (front_up rows).sublist (List.drop_sublist p _)
        rw [hd] at this
        exact (List.pairwise_cons.mp this).1 i hi
    rw [m]
    have t1 : (jo rows).take (p + 1) = (front rows).take p ++ [(front rows)[p]] := by
      unfold jo
      rw [List.take_append_of_le_length (by omega), List.take_add_one, List.getElem?_eq_getElem c]; rfl
    have t2 : (jo rows).drop p = (front rows).drop p ++ back rows := by
      unfold jo
      rw [List.drop_append_of_le_length (by omega)]
    rw [t1, t2]
    simp only [List.map_append, List.sum_append, List.map_cons, List.map_nil, List.sum_cons, List.sum_nil]
    omega
  · rw [if_neg (by simpa using c), if_neg c]
    unfold jo at hl
    rw [List.length_append] at hl
    obtain ⟨q, hq, hq2⟩ : ∃ q, p = (front rows).length + q ∧ q < (back rows).length := ⟨p - (front rows).length, by omega, by omega⟩
    subst hq
    rw [Nat.add_sub_cancel_left]
    have e : jo rows = front rows ++ (back rows).take (q + 1) ++ (back rows).drop (q + 1) := by rw [List.append_assoc, List.take_append_drop]; rfl
    rw [oth_of (X := front rows) (Y := (back rows).take (q + 1)) (Z := (back rows).drop (q + 1)) (by rw [← e]; exact g) fun i => srtI_mem]
    rw [List.map_append, List.sum_append, sum_min_a (fun i hi => (front_mem hi).2.2), sum_min_b (fun i hi => (back_mem (List.mem_of_mem_drop hi)).2.2), sum_perm (aR rows) (srtI_perm _)]
    have ht : (back rows).take (q + 1) = (back rows).take q ++ [(back rows)[q]] := by rw [List.take_add_one, List.getElem?_eq_getElem hq2]; rfl
    have m : minL ((srtI ((back rows).take (q + 1))).map (bR rows)) = bR rows (back rows)[q] := by
      refine minL_least (List.mem_map_of_mem (srtI_mem.mpr (by rw [ht]; exact List.mem_append_right _ (List.mem_singleton_self _)))) fun y hy => ?_
      obtain ⟨i, hi, rfl⟩ := List.mem_map.mp hy
      have hi := srtI_mem.mp hi
      rw [ht] at hi
      rcases List.mem_append.mp hi with hi | hi
      · have := (back_down rows).sublist (List.take_sublist (q + 1) _)
        rw [ht] at this
        exact (List.pairwise_append.mp this).2.2 i hi _ List.mem_cons_self
      · rw [List.mem_singleton.mp hi]; exact Int.le_refl _
    rw [m]
    have t1 : (jo rows).take ((front rows).length + q + 1) = front rows ++ (back rows).take (q + 1) := by
      unfold jo
      rw [Nat.add_assoc, List.take_length_add_append]
    have t2 : (jo rows).drop ((front rows).length + q) = (back rows)[q] :: (back rows).drop (q + 1) := by
      unfold jo
      rw [List.drop_length_add_append, List.drop_eq_getElem_cons hq2]
    rw [t1, t2]
    simp only [List.map_append, List.sum_append, List.map_cons, List.sum_cons]
    omega
/-! ### turns -/
/-- one, two, place -/
structure Tn (rows : Rows) (o pre : List Int) (one two : Int) (place : Nat) : Prop where
  e1 : one = (pre.map (aR rows)).sum
  e2 : pre ≠ [] → place < pre.length ∧ two = ((pre.take (place + 1)).map (aR rows)).sum + ((pre.drop place).map (bR rows)).sum
  t0 : pre = [] → two = 0
theorem Tn.go {rows : Rows} {o pre : List Int} {one two : Int} {place : Nat} (t : Tn rows o pre one two place) (k : Int) (ha : 1 ≤ aR rows k) :
    (two ≤ one + aR rows k → Tn rows o (pre ++ [k]) (one + aR rows k) (one + aR rows k + bR rows k) pre.length) ∧ (one + aR rows k < two → Tn rows o (pre ++ [k]) (one + aR rows k) (two + bR rows k) place) := by
  refine ⟨fun c => ⟨?_, fun _ => ⟨by simp, ?_⟩, fun z => by simp at z⟩, fun c => ⟨?_, fun _ => ?_, fun z => by simp at z⟩⟩
  · rw [t.e1]; simp
  · rw [List.take_of_length_le (by simp), List.drop_left, t.e1]; simp
  · rw [t.e1]; simp
  · have hp : pre ≠ [] := fun z => by
      have h0 := t.t0 z
      have h1 := t.e1
      rw [z] at h1
      simp at h1
      omega
    obtain ⟨h1, h2⟩ := t.e2 hp
    refine ⟨by simp; omega, ?_⟩
    rw [List.take_append_of_le_length (by omega), List.drop_append_of_le_length (by omega), h2]
    simp
    omega
end Law

namespace Law
open PySem Z Com
def fP : PV → Bool
  | .tup [_, .tup [.int a, .int b]] => decide (a ≤ b)
  | _ => false
def fF : PV → PV
  | .tup [i, .tup [.int a, .int b]] => .tup [.int a, i]
  | _ => .non
def gP : PV → Bool
  | .tup [_, .tup [.int a, .int b]] => decide (b < a)
  | _ => false
def gF : PV → PV
  | .tup [i, .tup [.int a, .int b]] => .tup [.int (0 - b), i]
  | _ => .non
def sndV : PV → PV
  | .tup [_, k] => k
  | _ => .non
theorem fr_is : ∀ (l : Rows) (i : Nat), ((enumL i (l.map pairV)).filter fP).map fF = (frL i l).map pairV
  | [], i => rfl
  | r :: l, i => by
    unfold frL
    rw [List.map_cons]
    show List.map fF (List.filter fP (PV.tup [.int i, pairV r] :: enumL (i + 1) (l.map pairV))) = _
    by_cases c : r.1 ≤ r.2
    · rw [if_pos c, List.filter_cons_of_pos (by show decide (r.1 ≤ r.2) = true; simpa using c), List.map_cons, fr_is l (i + 1)]; rfl
    · rw [if_neg c, List.filter_cons_of_neg (by show ¬ decide (r.1 ≤ r.2) = true; simpa using c), fr_is l (i + 1)]
theorem bk_is : ∀ (l : Rows) (i : Nat), ((enumL i (l.map pairV)).filter gP).map gF = (bkL i l).map pairV
  | [], i => rfl
  | r :: l, i => by
    unfold bkL
    rw [List.map_cons]
    show List.map gF (List.filter gP (PV.tup [.int i, pairV r] :: enumL (i + 1) (l.map pairV))) = _
    by_cases c : r.2 < r.1
    · rw [if_pos c, List.filter_cons_of_pos (by show decide (r.2 < r.1) = true; simpa using c), List.map_cons, bk_is l (i + 1)]; rfl
    · rw [if_neg c, List.filter_cons_of_neg (by show ¬ decide (r.2 < r.1) = true; simpa using c), bk_is l (i + 1)]
theorem snd_is (L : List (Int × Int)) : (L.map pairV).map sndV = (L.map (·.2)).map PV.int := by rw [List.map_map, List.map_map]; rfl
def sp_front_rows : Z.Spec := fun args h F _ => ∃ (a : Nat) (rows : Rows), args = [.ref a] ∧ h[a]? = some (.lst (rows.map pairV)) ∧ rows.length ≤ 30 ∧ ∀ r h', Ext h h' → h.length ≤ r → h'[r]? = some (.lst ((front rows).map PV.int)) → F (.ref r) h'
def sp_back_rows : Z.Spec := fun args h F _ => ∃ (a : Nat) (rows : Rows), args = [.ref a] ∧ h[a]? = some (.lst (rows.map pairV)) ∧ rows.length ≤ 30 ∧ ∀ r h', Ext h h' → h.length ≤ r → h'[r]? = some (.lst ((back rows).map PV.int)) → F (.ref r) h'
theorem srtP_len (rows : Rows) : (srtP (frL 0 rows)).length ≤ rows.length ∧ (srtP (bkL 0 rows)).length ≤ rows.length := by
  have := fb_len rows 0
  rw [(srtP_perm _).length_eq, (srtP_perm _).length_eq]
  omega
theorem mt_front_rows : Meets [] 5 1 ir_front_rows sp_front_rows := by
  rintro args h F E ⟨a, rows, rfl, ea, l2, kf⟩
  refine ⟨rfl, ?_⟩
  unfold ir_front_rows
  have el : (enumL 0 (rows.map pairV)).length = rows.length := by rw [enumL_len, List.length_map]
  refine wSs_step ?_; simp_arith [ea]
  refine wComp_filter fP fF _ (fun h' x => ⟨x _ _ ea, trivial⟩) (fun x hx h' ex => ?_) (fun x hx h' ex σ' es px G hG => ?_) (by rw [el]; show rows.length ≤ 16777216; omega) fun h2 x2 => ?_
  · obtain ⟨k, hk, rfl⟩ := mem_enumL hx
    refine ⟨_, rfl, fun G hG => ?_⟩
    rw [List.getElem_map] at hG ⊢
    simp_arith [pairV]
    exact hG _ ex
  · obtain ⟨k, hk, rfl⟩ := mem_enumL hx
    rw [List.getElem_map] at es hG
    cases es
    have q := hG _ ex
    rw [Nat.zero_add] at q
    simp_arith [pairV]
    exact q
  · rw [fr_is]
    simp_arith [new_get]
    refine sorted_pairs ?_
    rw [sortZ_pairs]
    have sl := (srtP_len rows).1
    refine wComp_map (h := h2 ++ _ ++ _) sndV _ (fun h' x => ⟨x _ _ new_get, trivial⟩) (fun x hx h3 x3 => ?_) (by rw [List.length_map]; show _ ≤ 16777216; omega) fun h3 x3 => ?_
    · obtain ⟨p, hp, rfl⟩ := List.mem_map.mp hx
      refine ⟨_, rfl, fun G hG => ?_⟩
      simp_arith []
      exact hG _ x3
    · rw [snd_is]
      have x := ((x2.trans .app).trans .app).trans x3
      exact kf _ _ (x.trans .app) x.len new_get
theorem mt_back_rows : Meets [] 5 1 ir_back_rows sp_back_rows := by
  rintro args h F E ⟨a, rows, rfl, ea, l2, kf⟩
  refine ⟨rfl, ?_⟩
  unfold ir_back_rows
  have el : (enumL 0 (rows.map pairV)).length = rows.length := by rw [enumL_len, List.length_map]
  refine wSs_step ?_; simp_arith [ea]
  refine wComp_filter gP gF _ (fun h' x => ⟨x _ _ ea, trivial⟩) (fun x hx h' ex => ?_) (fun x hx h' ex σ' es px G hG => ?_) (by rw [el]; show rows.length ≤ 16777216; omega) fun h2 x2 => ?_
  · obtain ⟨k, hk, rfl⟩ := mem_enumL hx
    refine ⟨_, rfl, fun G hG => ?_⟩
    rw [List.getElem_map] at hG ⊢
    simp_arith [pairV]
    exact hG _ ex
  · obtain ⟨k, hk, rfl⟩ := mem_enumL hx
    rw [List.getElem_map] at es hG
    cases es
    have q := hG _ ex
    rw [Nat.zero_add] at q
    simp_arith [pairV]
    exact q
  · rw [bk_is]
    simp_arith [new_get]
    refine sorted_pairs ?_
    rw [sortZ_pairs]
    have sl := (srtP_len rows).2
    refine wComp_map (h := h2 ++ _ ++ _) sndV _ (fun h' x => ⟨x _ _ new_get, trivial⟩) (fun x hx h3 x3 => ?_) (by rw [List.length_map]; show _ ≤ 16777216; omega) fun h3 x3 => ?_
    · obtain ⟨p, hp, rfl⟩ := List.mem_map.mp hx
      refine ⟨_, rfl, fun G hG => ?_⟩
      simp_arith []
      exact hG _ x3
    · rw [snd_is]
      have x := ((x2.trans .app).trans .app).trans x3
      exact kf _ _ (x.trans .app) x.len new_get
def sp_turn_of : Z.Spec := fun args h F _ => ∃ (a b : Nat) (rows : Rows) (o : List Int), args = [.ref a, .ref b] ∧ h[a]? = some (.lst (rows.map pairV)) ∧ h[b]? = some (.lst (o.map PV.int)) ∧ 1 ≤ rows.length ∧ rows.length ≤ 30 ∧ (∀ p ∈ rows, GoodRow p) ∧ GoodOrder rows.length o ∧
  ∀ (p : Nat), p < rows.length → spH rows o 0 o = cutS rows o p → F (.tup [.int (spH rows o 0 o), .int p]) h
theorem mt_turn_of : Meets [] 7 2 ir_turn_of sp_turn_of := by
  rintro args h F E ⟨a, b, rows, o, rfl, ea, eb, l1, l2, good, g, kf⟩
  refine ⟨rfl, ?_⟩
  unfold ir_turn_of
  have gl := g.1
  have nd := g.2.1
  refine wSs_step ?_; simp_arith []
  refine wSs_step ?_; simp_arith []
  refine wSs_step ?_; simp_arith []
  refine wSs_step ?_; simp_arith [eb]
  refine wFor_ind (fun rest σ h' => h' = h ∧ ∃ (i : Nat) (one two : Int) (place : Nat) (y z : Option PV), i ≤ o.length ∧ rest = enumL i ((o.map PV.int).drop i) ∧ σ = [some (.ref a), some (.ref b), some (.int one), some (.int two), some (.int place), y, z] ∧ Tn rows o (o.take i) one two place ∧ spH rows o two (o.drop i) = spH rows o 0 o) _ _ _ ⟨rfl, 0, 0, 0, 0, none, none, Nat.zero_le _, rfl, rfl, ⟨rfl, fun z => absurd rfl z, fun _ => rfl⟩, rfl⟩ ?_ ?_
  · rintro x rest σ h' ⟨rfl, i, one, two, place, y, z, hi, e2, rfl, tn, ev⟩
    by_cases hlt : i < o.length
    · rw [enumL_drop (by rw [List.length_map]; exact hlt), List.getElem_map] at e2
      cases e2
      refine ⟨⟨eb, trivial⟩, _, rfl, fun K hK => ?_⟩
      obtain ⟨b1, b2⟩ := g.2.2.1 o[i] (List.getElem_mem hlt)
      have gr := (atR_good b1 b2 good).1
      have tg := tn.go o[i] gr
      have tk : o.take (i + 1) = o.take i ++ [o[i]] := by rw [List.take_add_one, List.getElem?_eq_getElem hlt]; rfl
      have kp : o[i] ∉ o.take i := fun z => by
        have q := nd
        rw [← List.take_append_drop i o, List.drop_eq_getElem_cons hlt] at q
        exact (List.nodup_append.mp q).2.2 _ z _ List.mem_cons_self rfl
      have rdv : rd rows o o[i] = one + aR rows o[i] := by
        have q := rd_at (rows := rows) (q := o.drop (i + 1)) kp
        rw [← List.drop_eq_getElem_cons hlt, List.take_append_drop] at q
        rw [q, tn.e1]
        show ((o.take i ++ [o[i]]).map (aR rows)).sum = _
        rw [List.map_append, List.sum_append, List.map_cons, List.map_nil, List.sum_cons, List.sum_nil]
        omega
      rw [List.drop_eq_getElem_cons hlt, spH, rdv] at ev
      refine wSs_step ?_; simp_arith [ea, ixN_int b1 b2, rows_get b1 b2, pairV]
      by_cases c : two ≤ one + (atR rows o[i]).1
      · have em : max two (one + aR rows o[i]) = one + aR rows o[i] := by have : two ≤ one + aR rows o[i] := c; omega
        rw [em] at ev
        refine wSs_step ?_; simp_arith [c]
        refine wSs_step ?_; simp_arith []
        refine wSs_step ?_; simp_arith []
        refine wSs_step ?_; simp_arith [ea, ixN_int b1 b2, rows_get b1 b2, pairV]
        exact hK _ _ ⟨rfl, i + 1, _, _, i, _, _, hlt, rfl, rfl, by rw [tk]; have q := tg.1 c; rw [List.length_take, Nat.min_eq_left hi] at q; exact q, ev⟩
      · have em : max two (one + aR rows o[i]) = two := by have : ¬ two ≤ one + aR rows o[i] := c; omega
        rw [em] at ev
        refine wSs_step ?_; simp_arith [c]
        refine wSs_step ?_; simp_arith [ea, ixN_int b1 b2, rows_get b1 b2, pairV]
        exact hK _ _ ⟨rfl, i + 1, _, _, place, _, _, hlt, rfl, rfl, by rw [tk]; exact tg.2 (by show one + (atR rows o[i]).1 < two; omega), ev⟩
    · have : i = o.length := by omega
      subst this
      rw [List.drop_of_length_le (by rw [List.length_map]; exact Nat.le_refl _)] at e2
      cases e2
  · rintro σ h' ⟨rfl, i, one, two, place, y, z, hi, e2, rfl, tn, ev⟩
    refine ⟨⟨eb, trivial⟩, ?_⟩
    have : i = o.length := by
      apply Nat.le_antisymm hi
      apply Nat.le_of_not_lt
      intro l
      rw [enumL_drop (by rw [List.length_map]; exact l)] at e2
      cases e2
    subst this
    rw [List.drop_of_length_le (Nat.le_refl _)] at ev
    rw [List.take_of_length_le (Nat.le_refl _)] at tn
    have ev : two = spH rows o 0 o := ev
    obtain ⟨t1, t2⟩ := tn.e2 (fun z => by rw [z] at gl; simp at gl; omega)
    refine wSs_step ?_; simp_arith []
    rw [ev]
    exact kf place (by omega) (by rw [← ev]; exact t2)
end Law

namespace Law
open PySem Z Com
def toldV (rows : Rows) (r : Nat) (fr : Bool) (S : List Int) : PV := .tup [.int (spH rows (jo rows) 0 (jo rows)), .ref r, .tup [.str (sideS fr), .tup (S.map PV.int)]]
def gp_least_span : Z.Spec := fun args h F _ => ∃ (a : Nat) (rows : Rows), args = [.ref a] ∧ h[a]? = some (.lst (rows.map pairV)) ∧ 1 ≤ rows.length ∧ rows.length ≤ 30 ∧ (∀ p ∈ rows, GoodRow p) ∧
  ∀ r fr S h', Ext h h' → h.length ≤ r → h'[r]? = some (.lst ((jo rows).map PV.int)) → GoodSet rows.length S → sb rows fr S = spH rows (jo rows) 0 (jo rows) → F (toldV rows r fr S) h'
theorem cutL_take {α : Type} (xs : List α) (i : Int) (h : 0 ≤ i) (h2 : i ≤ xs.length) : cutL xs none (some i) = xs.take i.toNat := by
  unfold cutL
  have e : sIx xs.length xs.length (some i) = i.toNat := by
    rw [show i = ((i.toNat : Nat) : Int) by omega]
    rw [show sIx xs.length xs.length (some ((i.toNat : Nat) : Int)) = min i.toNat xs.length from HT.sIx_nat _ _ _, Nat.min_eq_left (by omega)]
    omega
  have e2 : sIx xs.length 0 none = 0 := rfl
  rw [e, e2, List.drop_zero, Nat.sub_zero]
theorem gd_least_span : Meets [sp_need_pairs, sp_front_rows, sp_back_rows, sp_turn_of] 5 1 ir_least_span gp_least_span := by
  rintro args h F E ⟨a, rows, rfl, ea, l1, l2, good, kf⟩
  refine ⟨rfl, ?_⟩
  unfold ir_least_span
  refine wSs_step ?_; simp_arith []
  refine NP ⟨a, rows, rfl, ea, l1, l2, good, fun h1 x1 => ?_⟩
  simp_arith []
  refine wSs_step ?_; simp_arith []
  refine ⟨a, rows, rfl, x1 _ _ ea, l2, fun r1 h2 x2 f2 e2 => ?_⟩
  simp_arith []
  refine ⟨a, rows, rfl, x2 _ _ (x1 _ _ ea), l2, fun r2 h3 x3 f3 e3 => ?_⟩
  have x13 := (x1.trans x2).trans x3
  have e2' := x3 _ _ e2
  have gl := (jo_good rows).1
  have ll : (front rows).length + (back rows).length = rows.length := by unfold jo at gl; rw [List.length_append] at gl; omega
  simp_arith []
  refine wSs_step ?_; simp_arith [e2', e3]
  refine ⟨by omega, ?_⟩
  rw [← List.map_append]
  have en : (h3 ++ [Ob.lst ((front rows ++ back rows).map PV.int)])[h3.length]? = some (.lst ((jo rows).map PV.int)) := new_get
  refine ⟨a, h3.length, rows, jo rows, rfl, app_get (x13 _ _ ea), en, l1, l2, good, jo_good rows, fun p hp ev => ?_⟩
  simp_arith []
  refine wSs_step ?_; simp_arith [app_get e2', app_get e3]
  have sh := set_shows hp
  have sg := setOf_good hp
  by_cases c : p < (front rows).length
  · have c' : (p : Int) < (front rows).length := by omega
    have ct : cutL ((front rows).map PV.int) (some (p : Int)) none = ((front rows).drop p).map PV.int := by rw [cutL_drop _ _ (by rw [List.length_map]; omega), List.map_drop]
    rw [show setOf rows p = srtI ((front rows).drop p) from if_pos c, ← ev] at sh
    rw [show setOf rows p = srtI ((front rows).drop p) from if_pos c] at sg
    rw [decide_eq_true c] at sh
    simp_arith [c']
    refine wSs_step ?_; simp_arith [app_get e2', app_get e3]
    refine ⟨by omega, ?_⟩
    simp_arith [app_get (app_get e2'), ct, new_get]
    refine sorted_ints ?_
    rw [sortZ_ints]
    have e5 : (h3 ++ [Ob.lst ((front rows ++ back rows).map PV.int)] ++ [Ob.lst ((front rows).map PV.int ++ (back rows).map PV.int)] ++ [Ob.lst (((front rows).drop p).map PV.int)] ++ [Ob.lst ((srtI ((front rows).drop p)).map PV.int)])[(h3 ++ [Ob.lst ((front rows ++ back rows).map PV.int)]).length]? = some (.lst ((jo rows).map PV.int)) := by
      unfold jo
      rw [List.map_append]
      exact app_get (app_get new_get)
    exact kf _ true _ _ (((x13.trans .app).trans .app).trans (Ext.app.trans .app)) (by have := x13.len; simp; omega) e5 sg sh
  · have c' : ¬ (p : Int) < (front rows).length := by omega
    have ct : cutL ((back rows).map PV.int) none (some ((p : Int) - (front rows).length + 1)) = ((back rows).take (p - (front rows).length + 1)).map PV.int := by
      rw [cutL_take _ _ (by omega) (by rw [List.length_map]; omega), show ((p : Int) - (front rows).length + 1).toNat = p - (front rows).length + 1 by omega, List.map_take]
    rw [show setOf rows p = srtI ((back rows).take (p - (front rows).length + 1)) from if_neg c, ← ev] at sh
    rw [show setOf rows p = srtI ((back rows).take (p - (front rows).length + 1)) from if_neg c] at sg
    rw [decide_eq_false c] at sh
    simp_arith [c']
    refine wSs_step ?_; simp_arith [app_get e2', app_get e3]
    refine ⟨by omega, ?_⟩
    simp_arith [app_get (app_get e2'), app_get (app_get e3), ct, new_get]
    refine sorted_ints ?_
    rw [sortZ_ints]
    have e5 : (h3 ++ [Ob.lst ((front rows ++ back rows).map PV.int)] ++ [Ob.lst ((front rows).map PV.int ++ (back rows).map PV.int)] ++ [Ob.lst (((back rows).take (p - (front rows).length + 1)).map PV.int)] ++ [Ob.lst ((srtI ((back rows).take (p - (front rows).length + 1))).map PV.int)])[(h3 ++ [Ob.lst ((front rows ++ back rows).map PV.int)]).length]? = some (.lst ((jo rows).map PV.int)) := by
      unfold jo
      rw [List.map_append]
      exact app_get (app_get new_get)
    exact kf _ false _ _ (((x13.trans .app).trans .app).trans (Ext.app.trans .app)) (by have := x13.len; simp; omega) e5 sg sh
end Law

/-! k42qc: spans and bounds of anything -/
namespace Law
open PySem Z Com
/-- rows that are right -/
structure GoodR (h : Hep) (a : Nat) (rows : Rows) : Prop where
  ea : h[a]? = some (.lst (rows.map pairV))
  l1 : 1 ≤ rows.length
  l2 : rows.length ≤ 30
  good : ∀ p ∈ rows, GoodRow p
theorem GoodR.ext {h h' : Hep} {a : Nat} {rows : Rows} (g : GoodR h a rows) (X : Ext h h') : GoodR h' a rows := ⟨X _ _ g.ea, g.l1, g.l2, g.good⟩
def sp_least_span : Z.Spec := fun args h F E => gp_least_span args h F E ∨ ∃ v, args = [v] ∧ BadR h v ∧ ∀ h', Ext h h' → E rowsX h'
theorem mt_least_span : Meets [sp_need_pairs, sp_front_rows, sp_back_rows, sp_turn_of] 5 1 ir_least_span sp_least_span := by
  rintro args h F E (g | ⟨v, rfl, b, kf⟩)
  · exact gd_least_span args h F E g
  · refine ⟨rfl, ?_⟩
    unfold ir_least_span
    show wSs _ _ [some _, none, none, none, none] h _
    refine wSs_step ?_; simp_arith []
    exact .inr ⟨v, rfl, b, fun h' X => kf _ X⟩
/-- what is no side -/
def NoStr (h : Hep) : PV → Prop
  | .non => True | .bl _ => True | .int _ => True | .tup _ => True
  | .ref r => ∃ o, h[r]? = some o ∧ IsLD o
  | _ => False
def BadS (h : Hep) (v : PV) : Prop := NoStr h v ∨ v = .str "" ∨ v = .str "Front" ∨ v = .str "side"
theorem BadS.ext {h h' : Hep} {v : PV} (b : BadS h v) (X : Ext h h') : BadS h' v := by
  rcases b with b | b
  · left
    cases v <;> first | trivial | exact b | skip
    obtain ⟨o, e, l⟩ := b
    exact ⟨o, X _ _ e, l⟩
  · exact .inr b
def sp_set_bound : Z.Spec := fun args h F E => gp_set_bound args h F E ∨ (∃ v x y, args = [v, x, y] ∧ BadR h v ∧ ∀ h', Ext h h' → E rowsX h') ∨
  ∃ (a : Nat) (rows : Rows) (sd v : PV), args = [.ref a, sd, v] ∧ GoodR h a rows ∧ (BadS h sd ∨ (∃ fr, sd = .str (sideS fr) ∧ NoSet h rows.length v)) ∧ ∀ h', Ext h h' → E tasksX h'
theorem no_in {h : Hep} {s : Str} {K : Bool → Prop} (sh : SeqAt.shaped (.str s) = true) (e : ([PyData.str "front", PyData.str "back"].any fun e => PyData.eqv e (.str s)) = false) (k : K false) : inL h (.str s) [.str "front", .str "back"] K := by
  refine ⟨.str s, [.str "front", .str "back"], rfl, sh, rfl, by decide +kernel, ?_⟩
  rw [e]
  exact k
theorem mt_set_bound : Meets [sp_need_pairs, sp_is_set, noS] 8 3 ir_set_bound sp_set_bound := by
  rintro args h F E (g | ⟨v, x, y, rfl, b, kf⟩ | ⟨a, rows, sd, v, rfl, g, c, kf⟩)
  · exact gd_set_bound args h F E g
  · refine ⟨rfl, ?_⟩
    unfold ir_set_bound
    show wSs _ _ [some _, some _, some _, none, none, none, none, none] h _
    refine wSs_step ?_; simp_arith []
    exact .inr ⟨v, rfl, b, fun h' X => kf _ X⟩
  · refine ⟨rfl, ?_⟩
    unfold ir_set_bound
    show wSs _ _ [some _, some _, some _, none, none, none, none, none] h _
    refine wSs_step ?_; simp_arith []
    refine .inl ⟨a, rows, rfl, g.ea, g.l1, g.l2, g.good, fun h1 X1 => ?_⟩
    have k1 := kf h1 X1
    rcases c with c | ⟨fr, rfl, ns⟩
    · rcases c.ext X1 with c | rfl | rfl | rfl
      · cases sd with
        | non => refine wSs_step ?_; simp_arith []; exact k1
        | bl => refine wSs_step ?_; simp_arith []; exact k1
        | int => refine wSs_step ?_; simp_arith []; exact k1
        | tup => refine wSs_step ?_; simp_arith []; exact k1
        | ref r =>
          obtain ⟨o, e, l⟩ := c
          cases o with
          | lst xs => refine wSs_step ?_; simp_arith [e]; exact k1
          | dic xs => refine wSs_step ?_; simp_arith [e]; exact k1
          | _ => exact l.elim
        | _ => exact c.elim
      · refine wSs_step ?_; simp_arith []
        refine no_in (by decide +kernel) (by decide +kernel) ?_
        simp_arith []
        exact k1
      · refine wSs_step ?_; simp_arith []
        refine no_in (by decide +kernel) (by decide +kernel) ?_
        simp_arith []
        exact k1
      · refine wSs_step ?_; simp_arith []
        refine no_in (by decide +kernel) (by decide +kernel) ?_
        simp_arith []
        exact k1
    · refine wSs_step ?_; simp_arith []
      refine inL_side ?_
      simp_arith [X1 _ _ g.ea]
      refine .inr ⟨v, _, rfl, ns.ext X1, fun h2 X2 => ?_⟩
      simp_arith []
      exact kf _ (X1.trans X2)
def sp_span_of : Z.Spec := fun args h F E => gp_span_of args h F E ∨ (∃ v x y, args = [v, x, y] ∧ BadR h v ∧ ∀ h', Ext h h' → E rowsX h') ∨
  ∃ (a : Nat) (rows : Rows) (x y : PV), args = [.ref a, x, y] ∧ GoodR h a rows ∧ (NoOrd h rows.length x ∨ (∃ (b : Nat) (os : List Int), x = .ref b ∧ h[b]? = some (.lst (os.map PV.int)) ∧ GoodOrder rows.length os ∧ NoOrd h rows.length y)) ∧ ∀ h', Ext h h' → E tasksX h'
theorem mt_span_of : Meets [sp_need_pairs, sp_is_order, noS] 6 3 ir_span_of sp_span_of := by
  rintro args h F E (g | ⟨v, x, y, rfl, b, kf⟩ | ⟨a, rows, x, y, rfl, g, c, kf⟩)
  · exact gd_span_of args h F E g
  · refine ⟨rfl, ?_⟩
    unfold ir_span_of
    show wSs _ _ [some _, some _, some _, none, none, none] h _
    refine wSs_step ?_; simp_arith []
    exact .inr ⟨v, rfl, b, fun h' X => kf _ X⟩
  · refine ⟨rfl, ?_⟩
    unfold ir_span_of
    show wSs _ _ [some _, some _, some _, none, none, none] h _
    have l2 := g.l2
    refine wSs_step ?_; simp_arith []
    refine .inl ⟨a, rows, rfl, g.ea, g.l1, g.l2, g.good, fun h1 X1 => ?_⟩
    try simp_arith []
    refine wSs_step ?_; simp_arith [X1 _ _ g.ea]
    rcases c with c | ⟨b, os, rfl, eb, go, no⟩
    · refine .inr ⟨_, _, rfl, c.ext X1, fun h2 X2 => ?_⟩
      simp_arith []
      exact kf _ (X1.trans X2)
    · refine .inl ⟨b, os, _, rfl, X1 _ _ eb, go.1, by omega, go.2.1, go.2.2.1, fun h2 X2 => ?_⟩
      simp_arith [X2 _ _ (X1 _ _ g.ea)]
      refine .inr ⟨_, _, rfl, (no.ext X1).ext X2, fun h3 X3 => ?_⟩
      simp_arith []
      exact kf _ ((X1.trans X2).trans X3)
end Law

/-! k42qd: things one behind the other, each of one kind; rows bent -/
namespace Law
open PySem Z Com
def EvOk (Γ : List Z.Spec) (σ : Z.Env) (Q : PV → Hep → Prop) (h0 : Hep) (e : Ex) : Prop := ∀ (h : Hep) (F : KQ) (E : KX), Ext h0 h → (∀ v h', Ext h h' → Q v h' → F v h') → Z.wE Γ e σ h F E
theorem evs_ok {Γ : List Z.Spec} {σ : Z.Env} {Q : PV → Hep → Prop} {h0 : Hep} {E : KX} (mono : ∀ v h h', Ext h h' → Q v h → Q v h') : ∀ (es : List Ex) (h : Hep) (F : List PV → Hep → Prop), Ext h0 h → (∀ e ∈ es, EvOk Γ σ Q h0 e) → (∀ vs h', Ext h h' → vs.length = es.length → (∀ v ∈ vs, Q v h') → F vs h') → wEs Γ es σ h F E
  | [], h, F, X, _, k => k [] h .rfl' rfl fun v m => (List.not_mem_nil m).elim
  | e :: es, h, F, X, w, k => by
    rw [wEs]
    refine w e List.mem_cons_self h _ _ X fun v h1 X1 q1 => ?_
    refine evs_ok mono es h1 _ (X.trans X1) (fun e m => w e (List.mem_cons_of_mem _ m)) fun vs h2 X2 l q2 => ?_
    refine k (v :: vs) h2 (X1.trans X2) (by rw [List.length_cons, List.length_cons, l]) fun x m => ?_
    rcases List.mem_cons.mp m with rfl | m
    · exact mono _ _ _ X2 q1
    · exact q2 x m
theorem lst_ok {Γ : List Z.Spec} {σ : Z.Env} {Q : PV → Hep → Prop} {h : Hep} {F : KQ} {E : KX} {es : List Ex} (mono : ∀ v h h', Ext h h' → Q v h → Q v h') (l : es.length ≤ 16777216) (w : ∀ e ∈ es, EvOk Γ σ Q h e) (k : ∀ r vs h', Ext h h' → h.length ≤ r → h'[r]? = some (.lst vs) → vs.length = es.length → (∀ v ∈ vs, Q v h') → F (.ref r) h') : Z.wE Γ (.lst es) σ h F E := by
  rw [wE]
  refine evs_ok mono es h _ .rfl' w fun vs h1 X1 l1 q => ⟨by rw [l1]; exact l, k _ vs _ (X1.trans .app) X1.len new_get l1 fun v m => mono _ _ _ .app (q v m)⟩
/-- what stays while one place changes -/
def Stb (d : Nat) (R : Hep → PV → Prop) (v : PV) (h : Hep) : Prop := ∀ h'', ExtB d h h'' → R h'' v
theorem Stb.mono {d : Nat} {R : Hep → PV → Prop} (v : PV) (h h' : Hep) (X : Ext h h') (q : Stb d R v h) : Stb d R v h' := fun h'' X'' => q h'' (X.b.trans X'')
theorem idx_get {vs : List PV} {n : Nat} {i : Int} (l : vs.length = n) (h0 : 0 ≤ i) (h1 : i < n) : ∃ v, ixN vs.length i = some i.toNat ∧ vs[i.toNat]? = some v ∧ v ∈ vs := by
  have lt : i.toNat < vs.length := by omega
  exact ⟨vs[i.toNat], ixN_int h0 (by omega), List.getElem?_eq_getElem lt, List.getElem_mem lt⟩
theorem cut_mem {α : Type} {xs : List α} {lo hi : Option Int} {x : α} (m : x ∈ cutL xs lo hi) : x ∈ xs := List.mem_of_mem_drop (List.mem_of_mem_take m)
theorem cut_len {α : Type} (xs : List α) (lo hi : Option Int) : (cutL xs lo hi).length ≤ xs.length := by
  unfold cutL
  rw [List.length_take, List.length_drop]
  omega
/-! ### rows bent -/
def BadE (h : Hep) (z : PV) : Prop := PT h z ∧ isP z = false
theorem pt_pair {h : Hep} (p : Int × Int) : PT h (pairV p) := fun y my => by
  rcases List.mem_cons.mp my with rfl | my
  · trivial
  · rw [List.mem_singleton.mp my]
    trivial
theorem bad_midR {h : Hep} {L : Rows} {z : PV} {q : Nat} {a b c d : Option Int} (l : L.length ≤ 30) (e : h[q]? = some (.lst (cutL (L.map pairV) a b ++ [z] ++ cutL (L.map pairV) c d))) (t : BadE h z) : BadR h (.ref q) := by
  refine .inr ⟨q, _, rfl, e, ?_, fun x m => ?_, .inr (.inr ⟨z, by simp, t.2⟩)⟩
  · have l1 := cut_len (L.map pairV) a b
    have l2 := cut_len (L.map pairV) c d
    rw [List.length_map] at l1 l2
    simp only [List.length_append, List.length_singleton]
    omega
  · rcases List.mem_append.mp m with m | m
    · rcases List.mem_append.mp m with m | m
      · obtain ⟨i, _, rfl⟩ := List.mem_map.mp (cut_mem m)
        exact pt_pair i
      · rw [List.mem_singleton.mp m]
        exact t.1
    · obtain ⟨i, _, rfl⟩ := List.mem_map.mp (cut_mem m)
      exact pt_pair i
def es_rows : List Ex := [(.tup [(.int 0), (.int 1)]), (.tup [(.int 1), (.int 0)]), (.tup [(.int 1001), (.int 1)]), (.tup [(.int 1), (.int 1001)]), (.tup [(.bl true), (.int 1)]), (.tup [(.int 1), .non]), (.lst [(.int 1), (.int 1)]), (.tup [(.int 1)]), (.tup [(.int 1), (.int 1), (.int 1)]), .non, (.str "11"), (.int 5)]
theorem es_rows_ok {Γ : List Z.Spec} {σ : Z.Env} {h : Hep} {d : Nat} (ld : d < h.length) : ∀ e ∈ es_rows, EvOk Γ σ (Stb d BadE) h e := by
  intro e m
  unfold es_rows at m
  simp only [List.mem_cons, List.not_mem_nil, or_false] at m
  rcases m with rfl | rfl | rfl | rfl | rfl | rfl | rfl | rfl | rfl | rfl | rfl | rfl
  · intro h1 F E X k; simp_arith []; exact k _ _ .rfl' fun h'' _ => ⟨fun y my => by simp at my; rcases my with rfl | rfl <;> trivial, by decide⟩
  · intro h1 F E X k; simp_arith []; exact k _ _ .rfl' fun h'' _ => ⟨fun y my => by simp at my; rcases my with rfl | rfl <;> trivial, by decide⟩
  · intro h1 F E X k; simp_arith []; exact k _ _ .rfl' fun h'' _ => ⟨fun y my => by simp at my; rcases my with rfl | rfl <;> trivial, by decide⟩
  · intro h1 F E X k; simp_arith []; exact k _ _ .rfl' fun h'' _ => ⟨fun y my => by simp at my; rcases my with rfl | rfl <;> trivial, by decide⟩
  · intro h1 F E X k; simp_arith []; exact k _ _ .rfl' fun h'' _ => ⟨fun y my => by simp at my; rcases my with rfl | rfl <;> trivial, by decide⟩
  · intro h1 F E X k; simp_arith []; exact k _ _ .rfl' fun h'' _ => ⟨fun y my => by simp at my; rcases my with rfl | rfl <;> trivial, by decide⟩
  · intro h1 F E X k
    have l1 := X.len
    simp_arith []
    exact k _ _ .app fun h'' X'' => ⟨⟨_, X''.2 _ _ (by omega) new_get⟩, rfl⟩
  · intro h1 F E X k; simp_arith []; exact k _ _ .rfl' fun h'' _ => ⟨fun y my => by simp at my; rcases my with rfl; trivial, by decide⟩
  · intro h1 F E X k; simp_arith []; exact k _ _ .rfl' fun h'' _ => ⟨fun y my => by simp at my; rcases my with rfl; trivial, by decide⟩
  · intro h1 F E X k; simp_arith []; exact k _ _ .rfl' fun h'' _ => ⟨trivial, rfl⟩
  · intro h1 F E X k; simp_arith []; exact k _ _ .rfl' fun h'' _ => ⟨trivial, rfl⟩
  · intro h1 F E X k; simp_arith []; exact k _ _ .rfl' fun h'' _ => ⟨trivial, rfl⟩
/-- x[:a] + [z] + x[b:], z at a slot -/
theorem mid_ok {Γ : List Z.Spec} {σ : Z.Env} {h : Hep} {F : KQ} {E : KX} {ez : Ex} {i j r : Nat} {a : Int} {xs : List PV} {z : PV} (ei : σ[i]? = some (some (.ref r))) (ej : σ[j]? = some (some (.int a))) (er : h[r]? = some (.lst xs)) (l : xs.length ≤ 1000) (wz : ∀ (h1 : Hep) (G : KQ), Ext h h1 → G z h1 → Z.wE Γ ez σ h1 G E)
    (k : ∀ q h', Ext h h' → h.length ≤ q → h'[q]? = some (.lst (cutL xs none (some a) ++ [z] ++ cutL xs (some (a + 1)) none)) → F (.ref q) h') :
    Z.wE Γ (.bin .Add (.bin .Add (.slc (.var i) none (some (.var j))) (.lst [ez])) (.slc (.var i) (some (.bin .Add (.var j) (.int 1))) none)) σ h F E := by
  have la := cut_len xs none (some a)
  have lb := cut_len xs (some (a + 1)) none
  simp_arith [ei, ej, er]
  have n5 := new_get (h := h) (o := Ob.lst (cutL xs none (some a)))
  refine wz _ _ .app ?_
  have n6 := app_get (j := [Ob.lst [z]]) n5
  have er6 := app_get (j := [Ob.lst (cutL xs none (some a) ++ [z])]) (app_get (j := [Ob.lst [z]]) (app_get (j := [Ob.lst (cutL xs none (some a))]) er))
  have n7 := new_get (h := h ++ [Ob.lst (cutL xs none (some a))] ++ [Ob.lst [z]]) (o := Ob.lst (cutL xs none (some a) ++ [z]))
  have n8 := app_get (j := [Ob.lst (cutL xs (some (a + 1)) none)]) n7
  have bg : (cutL xs none (some a)).length ≤ 16777215 := by omega
  have bg2 : (cutL xs none (some a) ++ [z]).length + (cutL xs (some (a + 1)) none).length ≤ 16777216 := by rw [List.length_append, List.length_singleton]; omega
  have X9 : Ext h (h ++ [Ob.lst (cutL xs none (some a))] ++ [Ob.lst [z]] ++ [Ob.lst (cutL xs none (some a) ++ [z])] ++ [Ob.lst (cutL xs (some (a + 1)) none)] ++ [Ob.lst (cutL xs none (some a) ++ [z] ++ cutL xs (some (a + 1)) none)]) := (((Ext.app.trans .app).trans .app).trans .app).trans .app
  simp_arith [n6, n7, n8, new_get, er6, bg, bg2, ei, ej]
  exact k _ _ X9 (by simp only [List.length_append]; omega) new_get
def ones31 : Ex := .bin .Mult (.lst [(.tup [(.int 1), (.int 1)])]) (.int 31)
def onesL : List PV := (List.replicate 31 [PV.tup [.int 1, .int 1]]).flatten
theorem ones31_ok {Γ : List Z.Spec} {σ : Z.Env} {h : Hep} {F : KQ} {E : KX} : Z.wE Γ ones31 σ h F E = F (.ref (h.length + 1)) (h ++ [.lst [.tup [.int 1, .int 1]]] ++ [.lst onesL]) := by
  have t : (31 : Int).toNat = 31 := rfl
  have e : (h ++ [Ob.lst [PV.tup [.int 1, .int 1]]]).length = h.length + 1 := by simp
  unfold ones31
  simp_arith [new_get, t]
  rw [e]
  exact propext ⟨fun z => z.2, fun z => ⟨by decide, z⟩⟩
def es_far : List Ex := [.non, (.int 5), .dct, (.str "rows"), (.bi .tuple [(.var 0)]), (.lst []), ones31, (.bl true)]
theorem es_far_ok {Γ : List Z.Spec} {σ : Z.Env} {h : Hep} {d r : Nat} {L : Rows} (ld : d < h.length) (e0 : σ[0]? = some (some (.ref r))) (er : h[r]? = some (.lst (L.map pairV))) : ∀ e ∈ es_far, EvOk Γ σ (Stb d BadR) h e := by
  intro e m
  unfold es_far at m
  simp only [List.mem_cons, List.not_mem_nil, or_false] at m
  rcases m with rfl | rfl | rfl | rfl | rfl | rfl | rfl | rfl
  · intro h1 F E X k; simp_arith []; exact k _ _ .rfl' fun h'' _ => .inl trivial
  · intro h1 F E X k; simp_arith []; exact k _ _ .rfl' fun h'' _ => .inl trivial
  · intro h1 F E X k
    have l1 := X.len
    simp_arith []
    exact k _ _ .app fun h'' X'' => .inl ⟨_, X''.2 _ _ (by omega) new_get⟩
  · intro h1 F E X k; simp_arith []; exact k _ _ .rfl' fun h'' _ => .inl trivial
  · intro h1 F E X k; simp_arith [e0, X _ _ er]; exact k _ _ .rfl' fun h'' _ => .inl trivial
  · intro h1 F E X k
    have l1 := X.len
    simp_arith []
    exact k _ _ .app fun h'' X'' => .inr ⟨_, _, rfl, X''.2 _ _ (by omega) new_get, by simp, fun x m => (List.not_mem_nil m).elim, .inl rfl⟩
  · intro h1 F E X k
    have l1 := X.len
    rw [ones31_ok]
    have g := new_get (h := h1 ++ [Ob.lst [PV.tup [.int 1, .int 1]]]) (o := Ob.lst onesL)
    rw [show (h1 ++ [Ob.lst [PV.tup [PV.int 1, PV.int 1]]]).length = h1.length + 1 by simp] at g
    have ln31 : onesL.length = 31 := rfl
    refine k _ _ (Ext.app.trans .app) fun h'' X'' => .inr ⟨_, _, rfl, X''.2 _ _ (by omega) g, by rw [ln31]; decide, fun x m => ?_, .inr (.inl (by rw [ln31]; decide))⟩
    obtain ⟨l, ml, mx⟩ := List.mem_flatten.mp m
    rw [List.eq_of_mem_replicate ml] at mx
    rw [List.mem_singleton.mp mx]
    exact pt_pair (1, 1)
  · intro h1 F E X k; simp_arith []; exact k _ _ .rfl' fun h'' _ => .inl trivial
theorem IsDraw_ext {h h' : Hep} {d : Nat} {B : Int} (a : IsDraw h d B) (x : Ext h h') : IsDraw h' d B := by
  obtain ⟨c, n, o, e, r⟩ := a
  exact ⟨c, n, o, x _ _ e, r⟩
theorem next_step {d : Nat} {h : Hep} {B m : Int} {G : KQ} {E : KX} (dr : IsDraw h d B) (hB : B ≤ 10 ^ 9 + 1000) (m1 : 1 ≤ m) (m2 : m < 2 ^ 64) (k : ∀ v h1, 0 ≤ v → v < m → IsDraw h1 d (B + 1) → ExtB d h h1 → G (.int v) h1) : Com.sp__law_next [.ref d, .int m] h G E :=
  ⟨d, _, _, rfl, dr, by omega, m1, m2, fun v h1 v1 v2 dr1 l1 e1 => k v h1 v1 v2 dr1 (nextB l1 e1)⟩
def sp__law_no_rows : Z.Spec := fun args h F _ => ∃ (r d : Nat) (L : Rows), args = [.ref r, .ref d] ∧ GoodR h r L ∧ r ≠ d ∧ IsDraw h d (10 ^ 9 + 100) ∧ ∀ (v : PV) (h' : Hep), ExtB d h h' → IsDraw h' d (10 ^ 9 + 110) → Stb d BadR v h' → F v h'
theorem mt__law_no_rows : Meets [sp__law_next] 5 2 ir__law_no_rows sp__law_no_rows := by
  rintro args h F E ⟨r, d, L, rfl, g, nd, dr, kf⟩
  refine ⟨rfl, ?_⟩
  have l1 := g.l1
  have l2 := g.l2
  have er := g.ea
  rw [show ir__law_no_rows = [.set (.nm 2) (.call 0 [(.var 1), (.bi .len [(.var 0)])]), .set (.nm 3) (.lst es_rows), .set (.nm 4) (.call 0 [(.var 1), (.int 20)]), .ife (.cmp .Lt (.var 4) (.int 12)) [.ret (.bin .Add (.bin .Add (.slc (.var 0) none (some (.var 2))) (.lst [(.idx (.var 3) (.var 4))])) (.slc (.var 0) (some (.bin .Add (.var 2) (.int 1))) none))] [], .ret (.idx (.lst es_far) (.bin .Sub (.var 4) (.int 12)))] from rfl]
  show wSs _ _ [some _, some _, none, none, none] h _
  refine wSs_step ?_; simp_arith [er]
  refine next_step dr (by decide) (by omega) (by omega) fun a h1 a1 a2 D1 X1 => ?_
  have er1 := X1.2 _ _ nd er
  try simp_arith []
  refine wSs_step ?_
  rw [wS]
  refine lst_ok (Q := Stb d BadE) Stb.mono (by decide) (es_rows_ok D1.lt) fun q vs h2 X2 lq eq lv qv => ?_
  have D2 := IsDraw_ext D1 X2
  have nq : q ≠ d := by have := D1.lt; omega
  try simp_arith []
  refine wSs_step ?_; simp_arith []
  refine next_step D2 (by decide) (by decide) (by decide) fun w h3 w1 w2 D3 X3 => ?_
  have er3 := X3.2 _ _ nd (X2 _ _ er1)
  have eq3 := X3.2 _ _ nq eq
  have X13 := (X1.trans X2.b).trans X3
  try simp_arith []
  by_cases c : w < 12
  · obtain ⟨z, i1, i2, mz⟩ := idx_get (n := 12) lv w1 c
    have bz := qv z mz
    refine wSs_step ?_; simp_arith [c]
    refine wSs_step ?_
    rw [wS]
    refine mid_ok (i := 0) (j := 2) (z := z) rfl rfl er3 (by rw [List.length_map]; omega) (fun h4 G X4 kG => ?_) fun q5 h5 X5 lq5 e5 => ?_
    · simp_arith [X4 _ _ eq3, i1, i2]
      exact kG
    · refine kf _ _ (X13.trans X5.b) ((IsDraw_ext D3 X5).le (by decide)) fun h'' X'' => ?_
      have n5 : q5 ≠ d := by have := D3.lt; omega
      exact bad_midR l2 (X''.2 _ _ n5 e5) (bz h'' ((X3.trans X5.b).trans X''))
  · refine wSs_step ?_; simp_arith [c]
    refine wSs_step ?_
    rw [wS, wE]
    refine lst_ok (Q := Stb d BadR) Stb.mono (by decide) (es_far_ok D3.lt rfl er3) fun q5 vs5 h5 X5 lq5 e5 lv5 qv5 => ?_
    obtain ⟨z, i1, i2, mz⟩ := idx_get (i := w - 12) (n := 8) lv5 (by omega) (by omega)
    simp_arith [e5, i1, i2]
    exact kf _ _ (X13.trans X5.b) ((IsDraw_ext D3 X5).le (by decide)) (qv5 z mz)
end Law

/-! k42qe: sets bent -/
namespace Law
open PySem Z Com
theorem datAll_cat {f : PV → Option PyData} : ∀ {xs ys : List PV} {ds es : List PyData}, datAll f xs = some ds → datAll f ys = some es → datAll f (xs ++ ys) = some (ds ++ es)
  | [], ys, ds, es, e1, e2 => by cases e1; exact e2
  | x :: xs, ys, ds, es, e1, e2 => by
    rw [datAll] at e1
    split at e1
    · rename_i d ds' q1 q2
      cases e1
      rw [List.cons_append, datAll, q1, datAll_cat q2 e2]
      rfl
    · cases e1
theorem lay_cat : ∀ {ds es : List PyData}, PyData.canLayAll0 ds = true → PyData.canLayAll0 es = true → PyData.canLayAll0 (ds ++ es) = true
  | [], es, _, b => b
  | d :: ds, es, a, b => by
    have a : (d.canLay0 && PyData.canLayAll0 ds) = true := a
    rw [Bool.and_eq_true] at a
    show (d.canLay0 && PyData.canLayAll0 (ds ++ es)) = true
    rw [a.1, lay_cat a.2 b]
    rfl
/-- what may stand in a set that is none: its data, and it is no number of the set -/
def OddZ (h : Hep) (n : Int) (z : PV) : Prop := Thg h z ∧ (∃ d, (∀ h', Ext h h' → dat h' 59 z = some d) ∧ d.canLay0 = true) ∧ amV 0 (n - 1) z = false
theorem am_no {n i : Int} (c : i < 0 ∨ n ≤ i) : amV 0 (n - 1) (.int i) = false := by
  show (decide (0 ≤ i) && decide (i ≤ n - 1)) = false
  rcases c with c | c
  · rw [decide_eq_false (show ¬ 0 ≤ i by omega)]; rfl
  · rw [decide_eq_false (show ¬ i ≤ n - 1 by omega), Bool.and_false]
theorem oddZ_int {h : Hep} {n i : Int} (c : i < 0 ∨ n ≤ i) : OddZ h n (.int i) := ⟨trivial, ⟨.int i, fun h' _ => dat_int h' 59 i, rfl⟩, am_no c⟩
theorem oddZ_lst {h : Hep} {n : Int} {r : Nat} (e : h[r]? = some (.lst [.int 0])) : OddZ h n (.ref r) := ⟨⟨_, e, trivial⟩, ⟨.list [.int 0], fun h' X => dat_lst (n := 58) (X _ _ e) rfl, rfl⟩, rfl⟩
/-- a tuple with such a thing in it -/
theorem noSet_mid {h : Hep} {n : Int} {z : PV} {A B : List Int} (o : OddZ h n z) (l : A.length + B.length ≤ 900) : NoSet h n (.tup (A.map PV.int ++ [z] ++ B.map PV.int)) := by
  obtain ⟨t, ⟨d, ed, ld⟩, na⟩ := o
  refine .inr (.inr ⟨_, A.map .int ++ [d] ++ B.map .int, rfl, by simp only [List.length_append, List.length_map, List.length_singleton]; omega, fun x m => ?_, fun h' X => ?_, lay_cat (lay_cat (lay_ints A) ?_) (lay_ints B), .inl ⟨z, by simp, na⟩⟩)
  · rcases List.mem_append.mp m with m | m
    · rcases List.mem_append.mp m with m | m
      · obtain ⟨i, _, rfl⟩ := List.mem_map.mp m
        trivial
      · rw [List.mem_singleton.mp m]
        exact t
    · obtain ⟨i, _, rfl⟩ := List.mem_map.mp m
      trivial
  · refine datAll_cat (datAll_cat (datAll_ints (dat_int h' 59) A) ?_) (datAll_ints (dat_int h' 59) B)
    rw [datAll, ed h' X]
    rfl
  · show (d.canLay0 && true) = true
    rw [ld]
    rfl
theorem noSet_one {h : Hep} {n : Int} {z : PV} (o : OddZ h n z) : NoSet h n (.tup [z]) := noSet_mid (A := []) (B := []) o (by decide)
theorem noSet_two {h : Hep} {n : Int} {a b : Int} (c : b ≤ a) : NoSet h n (.tup [.int a, .int b]) :=
  .inr (.inr ⟨_, [.int a, .int b], rfl, by show 2 ≤ 1000; decide, fun x m => by simp at m; rcases m with rfl | rfl <;> trivial, fun h' X => datAll_ints (dat_int h' 59) [a, b], rfl, .inr ⟨a, b, rfl, c⟩⟩)
def es_set : List Ex := [(.xtp []), (.lst [(.int 0)]), .non, (.int 0), (.tup [(.var 0)]), (.tup [(.neg (.int 1))]), (.tup [(.int 0), (.int 0)]), (.tup [(.bl true)]), (.tup [(.str "0")]), (.str "0"), .dct, (.tup [.non]), (.tup [(.int 0), (.var 0)])]
theorem oddZ_bl {h : Hep} {n : Int} : OddZ h n (.bl true) := ⟨trivial, ⟨.bool true, fun h' _ => rfl, rfl⟩, rfl⟩
theorem oddZ_str {h : Hep} {n : Int} : OddZ h n (.str "0") := ⟨trivial, ⟨.str "0", fun h' _ => rfl, by decide +kernel⟩, rfl⟩
theorem oddZ_non {h : Hep} {n : Int} : OddZ h n .non := ⟨trivial, ⟨.none, fun h' _ => rfl, rfl⟩, rfl⟩
theorem es_set_ok {Γ : List Z.Spec} {σ : Z.Env} {h : Hep} {d : Nat} {n : Int} (ld : d < h.length) (e0 : σ[0]? = some (some (.int n))) (n1 : 1 ≤ n) : ∀ e ∈ es_set, EvOk Γ σ (Stb d fun h v => NoSet h n v) h e := by
  intro e m
  unfold es_set at m
  simp only [List.mem_cons, List.not_mem_nil, or_false] at m
  rcases m with rfl | rfl | rfl | rfl | rfl | rfl | rfl | rfl | rfl | rfl | rfl | rfl | rfl
  · intro h1 F E X k; simp_arith []; exact k _ _ .rfl' fun h'' _ => .inr (.inl rfl)
  · intro h1 F E X k
    have l1 := X.len
    simp_arith []
    exact k _ _ .app fun h'' X'' => .inl ⟨_, X''.2 _ _ (by omega) new_get, trivial⟩
  · intro h1 F E X k; simp_arith []; exact k _ _ .rfl' fun h'' _ => .inl trivial
  · intro h1 F E X k; simp_arith []; exact k _ _ .rfl' fun h'' _ => .inl trivial
  · intro h1 F E X k; simp_arith [e0]; exact k _ _ .rfl' fun h'' _ => noSet_one (oddZ_int (.inr (Int.le_refl _)))
  · intro h1 F E X k; simp_arith []; exact k _ _ .rfl' fun h'' _ => noSet_one (oddZ_int (.inl (by decide)))
  · intro h1 F E X k; simp_arith []; exact k _ _ .rfl' fun h'' _ => noSet_two (Int.le_refl _)
  · intro h1 F E X k; simp_arith []; exact k _ _ .rfl' fun h'' _ => noSet_one oddZ_bl
  · intro h1 F E X k; simp_arith []; exact k _ _ .rfl' fun h'' _ => noSet_one oddZ_str
  · intro h1 F E X k; simp_arith []; exact k _ _ .rfl' fun h'' _ => .inl trivial
  · intro h1 F E X k
    have l1 := X.len
    simp_arith []
    exact k _ _ .app fun h'' X'' => .inl ⟨_, X''.2 _ _ (by omega) new_get, trivial⟩
  · intro h1 F E X k; simp_arith []; exact k _ _ .rfl' fun h'' _ => noSet_one oddZ_non
  · intro h1 F E X k; simp_arith [e0]; exact k _ _ .rfl' fun h'' _ => noSet_mid (A := [0]) (B := []) (oddZ_int (.inr (Int.le_refl _))) (by decide)
def es_oz : List Ex := [(.var 0), (.neg (.int 1)), (.bl true), .non, (.str "0"), (.lst [(.int 0)]), (.bin .Pow (.int 10) (.int 30))]
theorem pow30 {Γ : List Z.Spec} {σ : Z.Env} {h : Hep} {F : KQ} {E : KX} (k : F (.int (10 ^ 30)) h) : Z.wE Γ (.bin .Pow (.int 10) (.int 30)) σ h F E := by
  rw [show (10 : Int) ^ 30 = 1000000000000000000000000000000 by decide +kernel] at k
  simp_arith [powOk]
  exact ⟨by decide, k⟩
theorem es_oz_ok {Γ : List Z.Spec} {σ : Z.Env} {h : Hep} {d : Nat} {n : Int} (ld : d < h.length) (e0 : σ[0]? = some (some (.int n))) (n2 : n ≤ 1000) : ∀ e ∈ es_oz, EvOk Γ σ (Stb d fun h v => OddZ h n v) h e := by
  intro e m
  unfold es_oz at m
  simp only [List.mem_cons, List.not_mem_nil, or_false] at m
  rcases m with rfl | rfl | rfl | rfl | rfl | rfl | rfl
  · intro h1 F E X k; simp_arith [e0]; exact k _ _ .rfl' fun h'' _ => oddZ_int (.inr (Int.le_refl _))
  · intro h1 F E X k; simp_arith []; exact k _ _ .rfl' fun h'' _ => oddZ_int (.inl (by decide))
  · intro h1 F E X k; simp_arith []; exact k _ _ .rfl' fun h'' _ => oddZ_bl
  · intro h1 F E X k; simp_arith []; exact k _ _ .rfl' fun h'' _ => oddZ_non
  · intro h1 F E X k; simp_arith []; exact k _ _ .rfl' fun h'' _ => oddZ_str
  · intro h1 F E X k
    have l1 := X.len
    simp_arith []
    exact k _ _ .app fun h'' X'' => oddZ_lst (X''.2 _ _ (by omega) new_get)
  · intro h1 F E X k
    exact pow30 (k _ _ .rfl' fun h'' _ => oddZ_int (.inr (Int.le_trans n2 (by decide))))
def sp__law_no_set : Z.Spec := fun args h F _ => ∃ (n : Int) (d : Nat), args = [.int n, .ref d] ∧ 1 ≤ n ∧ n ≤ 30 ∧ IsDraw h d (10 ^ 9 + 200) ∧ ∀ (v : PV) (h' : Hep), ExtB d h h' → IsDraw h' d (10 ^ 9 + 210) → Stb d (fun h v => NoSet h n v) v h' → F v h'
def ex_spoilt : Ex := .bi .tuple [(.bin .Add (.bin .Add (.bi .listrange [(.var 4)]) (.lst [(.var 5)])) (.bi .listrange [(.var 4), (.var 0)]))]
theorem spoilt_ok {Γ : List Z.Spec} {σ : Z.Env} {h : Hep} {F : KQ} {E : KX} {n a : Int} {z : PV} (e0 : σ[0]? = some (some (.int n))) (e4 : σ[4]? = some (some (.int a))) (e5 : σ[5]? = some (some z)) (a0 : 0 ≤ a) (an : a < n) (n3 : n ≤ 30)
    (k : ∀ (A B : List Int) h', Ext h h' → A.length + B.length ≤ 900 → F (.tup (A.map PV.int ++ [z] ++ B.map PV.int)) h') : Z.wE Γ ex_spoilt σ h F E := by
  unfold ex_spoilt
  have c1 : a ≤ 16777216 := by omega
  have c2 : -4611686018427387904 ≤ a := by omega
  have c3 : a < 4611686018427387904 := by omega
  have c4 : -4611686018427387904 ≤ n := by omega
  have c5 : n < 4611686018427387904 := by omega
  have c6 : n - a ≤ 16777216 := by omega
  have eA : ((List.range a.toNat).map fun (i : Nat) => PV.int i) = ((List.range a.toNat).map fun (i : Nat) => (i : Int)).map PV.int := by rw [List.map_map]; rfl
  have eB : ((List.range (n - a).toNat).map fun (i : Nat) => PV.int (a + i)) = ((List.range (n - a).toNat).map fun (i : Nat) => a + (i : Int)).map PV.int := by rw [List.map_map]; rfl
  have lA : ((List.range a.toNat).map fun (i : Nat) => (i : Int)).length = a.toNat := by rw [List.length_map, List.length_range]
  have lB : ((List.range (n - a).toNat).map fun (i : Nat) => a + (i : Int)).length = (n - a).toNat := by rw [List.length_map, List.length_range]
  simp_arith [e0, e4, e5, c1, c2, c3, c4, c5, c6, eA]
  generalize (List.range a.toNat).map (fun (i : Nat) => (i : Int)) = A at *
  have n1 := app_get (j := [Ob.lst [z]]) (new_get (h := h) (o := Ob.lst (A.map PV.int)))
  have bA : A.length ≤ 16777215 := by omega
  simp_arith [n1, new_get, bA, e0, e4, c1, c2, c3, c4, c5, c6, eB]
  generalize (List.range (n - a).toNat).map (fun (i : Nat) => a + (i : Int)) = B at *
  have n2 := app_get (j := [Ob.lst (B.map PV.int)]) (new_get (h := h ++ [Ob.lst (A.map PV.int)] ++ [Ob.lst [z]]) (o := Ob.lst (A.map PV.int ++ [z])))
  have bB : (A.map PV.int ++ [z]).length + (List.range (n - a).toNat).length ≤ 16777216 := by rw [List.length_append, List.length_map, List.length_singleton, List.length_range]; omega
  simp_arith [n2, new_get, bB]
  exact k A B _ ((((Ext.app).trans .app).trans .app).trans (Ext.app.trans .app)) (by omega)
theorem mt__law_no_set : Meets [sp__law_next] 7 2 ir__law_no_set sp__law_no_set := by
  rintro args h F E ⟨n, d, rfl, n1, n3, dr, kf⟩
  refine ⟨rfl, ?_⟩
  rw [show ir__law_no_set = [.set (.nm 2) (.lst es_set), .par 3 4 (.call 0 [(.var 1), (.int 28)]) (.call 0 [(.var 1), (.var 0)]), .set (.nm 5) (.idx (.lst es_oz) (.call 0 [(.var 1), (.int 7)])), .set (.nm 6) ex_spoilt, .ret (.ife (.cmp .Lt (.var 3) (.int 14)) (.idx (.bin .Add (.var 2) (.lst [(.tup [(.int 1), (.int 0)])])) (.var 3)) (.var 6))] from rfl]
  show wSs _ _ [some _, some _, none, none, none, none, none] h _
  refine wSs_step ?_
  rw [wS]
  refine lst_ok (Q := Stb d fun h v => NoSet h n v) Stb.mono (by decide) (es_set_ok dr.lt rfl n1) fun q vs h1 X1 lq eq lv qv => ?_
  have D1 := IsDraw_ext dr X1
  have nq : q ≠ d := by have := dr.lt; omega
  try simp_arith []
  refine wSs_step ?_; simp_arith []
  refine next_step D1 (by decide) (by decide) (by decide) fun w h2 w1 w2 D2 X2 => ?_
  try simp_arith []
  refine next_step D2 (by decide) n1 (by omega) fun a h3 a1 a2 D3 X3 => ?_
  try simp_arith []
  have eq3 := X3.2 _ _ nq (X2.2 _ _ nq eq)
  have X13 := (X1.b.trans X2).trans X3
  refine wSs_step ?_
  rw [wS, wE]
  refine lst_ok (Q := Stb d fun h v => OddZ h n v) Stb.mono (by decide) (es_oz_ok D3.lt rfl (by omega)) fun q5 vs5 h5 X5 lq5 eq5 lv5 qv5 => ?_
  have D5 := IsDraw_ext D3 X5
  have nq5 : q5 ≠ d := by have := D3.lt; omega
  try simp_arith []
  refine next_step D5 (by decide) (by decide) (by decide) fun b h6 b1 b2 D6 X6 => ?_
  obtain ⟨z, i1, i2, mz⟩ := idx_get (n := 7) lv5 b1 b2
  have oz := qv5 z mz
  simp_arith [X6.2 _ _ nq5 eq5, i1, i2]
  have eq6 := X6.2 _ _ nq (X5 _ _ eq3)
  have X16 := (X13.trans X5.b).trans X6
  refine wSs_step ?_
  rw [wS]
  refine spoilt_ok rfl rfl rfl a1 a2 n3 fun A B h7 X7 lAB => ?_
  have D7 := IsDraw_ext D6 X7
  have eq7 := X7 _ _ eq6
  have X17 := X16.trans X7.b
  try simp_arith []
  by_cases c : w < 14
  · refine wSs_step ?_; simp_arith [c, eq7]
    have g := app_get (j := [Ob.lst [PV.tup [PV.int 1, PV.int 0]]]) eq7
    have bv : vs.length ≤ 16777215 := by rw [lv]; decide
    simp_arith [g, new_get, bv]
    have lv2 : (vs ++ [PV.tup [PV.int 1, PV.int 0]]).length = 14 := by rw [List.length_append, lv]; rfl
    obtain ⟨v, j1, j2, mv⟩ := idx_get (n := 14) lv2 w1 c
    have X8 : Ext h7 (h7 ++ [Ob.lst [PV.tup [PV.int 1, PV.int 0]]] ++ [Ob.lst (vs ++ [PV.tup [PV.int 1, PV.int 0]])]) := Ext.app.trans .app
    simp_arith [j1, j2]
    refine kf _ _ (X17.trans X8.b) ((IsDraw_ext D7 X8).le (by decide)) fun h'' X'' => ?_
    rcases List.mem_append.mp mv with m | m
    · exact qv v m h'' (((X2.trans X3).trans (X5.b.trans X6)).trans ((X7.b.trans X8.b).trans X''))
    · rw [List.mem_singleton.mp m]
      exact noSet_two (by decide)
  · refine wSs_step ?_; simp_arith [c]
    exact kf _ _ X17 (D7.le (by decide)) fun h'' X'' => noSet_mid (oz h'' (X6.trans (X7.b.trans X''))) lAB
end Law

/-! k42qf: orders bent -/
namespace Law
open PySem Z Com
def ordI (n : Int) : List Int := (List.range n.toNat).map fun (i : Nat) => (i : Int)
theorem ordI_len {n : Int} (h : 0 ≤ n) : ((ordI n).length : Int) = n := by
  unfold ordI
  rw [List.length_map, List.length_range]
  omega
theorem ordI_good {n : Int} (h : 0 ≤ n) : GoodOrder n (ordI n) := rng_order n h _ (List.Perm.refl _)
/-- a thing that is no number of the order -/
def OddO (h : Hep) (n : Int) (z : PV) : Prop := Thg h z ∧ amV 0 (n - 1) z = false
theorem noOrd_el {h : Hep} {n : Int} {q : Nat} {xs : List PV} {z : PV} (e : h[q]? = some (.lst xs)) (l : xs.length ≤ 1000) (t : ∀ x ∈ xs, Thg h x) (m : z ∈ xs) (o : amV 0 (n - 1) z = false) : NoOrd h n (.ref q) := .inr ⟨q, xs, rfl, e, l, t, .inr (.inl ⟨z, m, o⟩)⟩
theorem noOrd_len {h : Hep} {n : Int} {q : Nat} {xs : List PV} (e : h[q]? = some (.lst xs)) (l : xs.length ≤ 1000) (t : ∀ x ∈ xs, Thg h x) (c : (xs.length : Int) ≠ n) : NoOrd h n (.ref q) := .inr ⟨q, xs, rfl, e, l, t, .inl c⟩
theorem cut_thg {h : Hep} {L : List Int} {a b : Option Int} : ∀ x ∈ cutL (L.map PV.int) a b, Thg h x := fun x m => by
  obtain ⟨i, _, rfl⟩ := List.mem_map.mp (cut_mem m)
  trivial
theorem int_thg {h : Hep} {L : List Int} : ∀ x ∈ L.map PV.int, Thg h x := fun x m => by
  obtain ⟨i, _, rfl⟩ := List.mem_map.mp m
  trivial
theorem app_thg {h : Hep} {xs ys : List PV} (a : ∀ x ∈ xs, Thg h x) (b : ∀ x ∈ ys, Thg h x) : ∀ x ∈ xs ++ ys, Thg h x := fun x m => (List.mem_append.mp m).elim (a x) (b x)
theorem one_thg {h : Hep} {z : PV} (t : Thg h z) : ∀ x ∈ [z], Thg h x := fun x m => by rw [List.mem_singleton.mp m]; exact t
/-- x[:-1] + [z] -/
theorem but_ok {Γ : List Z.Spec} {σ : Z.Env} {h : Hep} {F : KQ} {E : KX} {ez : Ex} {i r : Nat} {xs : List PV} {z : PV} (ei : σ[i]? = some (some (.ref r))) (er : h[r]? = some (.lst xs)) (l : xs.length ≤ 1000) (wz : ∀ (h1 : Hep) (G : KQ), Ext h h1 → G z h1 → Z.wE Γ ez σ h1 G E)
    (k : ∀ q h', Ext h h' → h.length ≤ q → h'[q]? = some (.lst (cutL xs none (some (-1)) ++ [z])) → F (.ref q) h') : Z.wE Γ (.bin .Add (.slc (.var i) none (some (.neg (.int 1)))) (.lst [ez])) σ h F E := by
  have la := cut_len xs none (some (-1))
  have bg : (cutL xs none (some (-1))).length ≤ 16777215 := by omega
  simp_arith [ei, er]
  refine wz _ _ .app ?_
  have n1 := app_get (j := [Ob.lst [z]]) (new_get (h := h) (o := Ob.lst (cutL xs none (some (-1)))))
  simp_arith [n1, new_get, bg]
  exact k _ _ ((Ext.app.trans .app).trans .app) (by simp only [List.length_append]; omega) new_get
abbrev NOQ (d : Nat) (n : Int) : PV → Hep → Prop := Stb d fun h v => NoOrd h n v
theorem but_no {Γ : List Z.Spec} {σ : Z.Env} {h : Hep} {n : Int} {d r : Nat} {ez : Ex} {z : PV} (ld : d < h.length) (n1 : 1 ≤ n) (n3 : n ≤ 30) (e2 : σ[2]? = some (some (.ref r))) (er : h[r]? = some (.lst ((ordI n).map PV.int))) (wz : ∀ (h1 : Hep) (G : KQ) (E : KX), G z h1 → Z.wE Γ ez σ h1 G E) (tz : ∀ h', Thg h' z) (o : amV 0 (n - 1) z = false) :
    EvOk Γ σ (NOQ d n) h (.bin .Add (.slc (.var 2) none (some (.neg (.int 1)))) (.lst [ez])) := by
  intro h1 F E X k
  have ll := ordI_len (n := n) (by omega)
  have l1 := X.len
  refine but_ok e2 (X _ _ er) (by rw [List.length_map]; omega) (fun h2 G _ g => wz h2 G E g) fun q h2 X2 lq eq => k _ _ X2 fun h'' X'' => ?_
  have lc := cut_len ((ordI n).map PV.int) none (some (-1))
  rw [List.length_map] at lc
  exact noOrd_el (X''.2 _ _ (by omega) eq) (by rw [List.length_append, List.length_singleton]; omega) (app_thg cut_thg (one_thg (tz _))) (by simp) o
def es_o1 : List Ex := [(.slc (.var 2) (some (.int 1)) none), (.bin .Add (.var 2) (.lst [(.int 0)])), (.bi .tuple [(.var 2)]), .non, (.int 0), .dct, (.str "0"), (.bin .Add (.slc (.var 2) none (some (.neg (.int 1)))) (.lst [(.var 0)])), (.bin .Add (.slc (.var 2) none (some (.neg (.int 1)))) (.lst [(.neg (.int 1))]))]
theorem es_o1_ok {Γ : List Z.Spec} {σ : Z.Env} {h : Hep} {d r : Nat} {n : Int} (ld : d < h.length) (n1 : 1 ≤ n) (n3 : n ≤ 30) (e0 : σ[0]? = some (some (.int n))) (e2 : σ[2]? = some (some (.ref r))) (er : h[r]? = some (.lst ((ordI n).map PV.int))) : ∀ e ∈ es_o1, EvOk Γ σ (NOQ d n) h e := by
  intro e m
  have ll := ordI_len (n := n) (by omega)
  unfold es_o1 at m
  simp only [List.mem_cons, List.not_mem_nil, or_false] at m
  rcases m with rfl | rfl | rfl | rfl | rfl | rfl | rfl | rfl | rfl
  · intro h1 F E X k
    have l1 := X.len
    have c1 : cutL ((ordI n).map PV.int) (some (1 : Int)) none = ((ordI n).map PV.int).drop 1 := cutL_drop _ 1 (by rw [List.length_map]; omega)
    simp_arith [e2, X _ _ er]
    refine k _ _ .app fun h'' X'' => noOrd_len (X''.2 _ _ (by omega) new_get) ?_ cut_thg ?_
    · rw [c1, List.length_drop, List.length_map]; omega
    · rw [c1, List.length_drop, List.length_map]; omega
  · intro h1 F E X k
    have l1 := X.len
    have b1 : (ordI n).length ≤ 16777215 := by omega
    simp_arith [e2, app_get (j := [Ob.lst [PV.int 0]]) (X _ _ er), new_get, b1]
    refine k _ _ (Ext.app.trans .app) fun h'' X'' => noOrd_len (X''.2 _ _ (by simp only [List.length_append]; omega) new_get) ?_ (app_thg int_thg (one_thg trivial)) ?_
    · rw [List.length_append, List.length_map, List.length_singleton]; omega
    · rw [List.length_append, List.length_map, List.length_singleton]; omega
  · intro h1 F E X k; simp_arith [e2, X _ _ er]; exact k _ _ .rfl' fun h'' _ => .inl trivial
  · intro h1 F E X k; simp_arith []; exact k _ _ .rfl' fun h'' _ => .inl trivial
  · intro h1 F E X k; simp_arith []; exact k _ _ .rfl' fun h'' _ => .inl trivial
  · intro h1 F E X k
    have l1 := X.len
    simp_arith []
    exact k _ _ .app fun h'' X'' => .inl ⟨_, X''.2 _ _ (by omega) new_get⟩
  · intro h1 F E X k; simp_arith []; exact k _ _ .rfl' fun h'' _ => .inl trivial
  · exact but_no (z := .int n) ld n1 n3 e2 er (fun h1 G E g => by simp_arith [e0]; exact g) (fun _ => trivial) (am_no (.inr (Int.le_refl _)))
  · exact but_no (z := .int (-1)) ld n1 n3 e2 er (fun h1 G E g => by simp_arith []; exact g) (fun _ => trivial) (am_no (.inl (by decide)))
def es_o2 : List Ex := [(.bin .Add (.slc (.var 2) none (some (.neg (.int 1)))) (.lst [.non])), (.bin .Add (.slc (.var 2) none (some (.neg (.int 1)))) (.lst [(.str "0")])), (.bin .Add (.lst [(.bl false)]) (.slc (.var 2) (some (.int 1)) none)), (.bin .Add (.var 2) (.var 2)), (.lst [(.var 2)])]
theorem es_o2_ok {Γ : List Z.Spec} {σ : Z.Env} {h : Hep} {d r : Nat} {n : Int} (ld : d < h.length) (rd : r ≠ d) (n1 : 1 ≤ n) (n3 : n ≤ 30) (e2 : σ[2]? = some (some (.ref r))) (er : h[r]? = some (.lst ((ordI n).map PV.int))) : ∀ e ∈ es_o2, EvOk Γ σ (NOQ d n) h e := by
  intro e m
  have ll := ordI_len (n := n) (by omega)
  unfold es_o2 at m
  simp only [List.mem_cons, List.not_mem_nil, or_false] at m
  rcases m with rfl | rfl | rfl | rfl | rfl
  · exact but_no (z := .non) ld n1 n3 e2 er (fun h1 G E g => by simp_arith []; exact g) (fun _ => trivial) rfl
  · exact but_no (z := .str "0") ld n1 n3 e2 er (fun h1 G E g => by simp_arith []; exact g) (fun _ => trivial) rfl
  · intro h1 F E X k
    have l1 := X.len
    have lc := cut_len ((ordI n).map PV.int) (some 1) none
    rw [List.length_map] at lc
    have b1 : 1 + (cutL ((ordI n).map PV.int) (some 1) none).length ≤ 16777216 := by omega
    have g := app_get (j := [Ob.lst (cutL ((ordI n).map PV.int) (some 1) none)]) (new_get (h := h1) (o := Ob.lst [PV.bl false]))
    simp_arith [e2, app_get (j := [Ob.lst [PV.bl false]]) (X _ _ er), g, new_get, b1]
    refine k _ _ ((Ext.app.trans .app).trans .app) fun h'' X'' => noOrd_el (z := .bl false) (X''.2 _ _ (by simp only [List.length_append]; omega) new_get) ?_ ?_ (List.mem_cons_self) rfl
    · rw [List.length_cons]; omega
    · exact app_thg (xs := [PV.bl false]) (one_thg trivial) cut_thg
  · intro h1 F E X k
    have l1 := X.len
    have b1 : (ordI n).length + (ordI n).length ≤ 16777216 := by omega
    simp_arith [e2, X _ _ er, b1]
    refine k _ _ .app fun h'' X'' => noOrd_len (X''.2 _ _ (by omega) new_get) ?_ (app_thg int_thg int_thg) ?_
    · rw [List.length_append, List.length_map]; omega
    · rw [List.length_append, List.length_map]; omega
  · intro h1 F E X k
    have l1 := X.len
    simp_arith [e2]
    exact k _ _ .app fun h'' X'' => noOrd_el (z := .ref r) (X''.2 _ _ (by omega) new_get) (by simp) (one_thg ⟨_, X''.2 _ _ rd (app_get (X _ _ er)), trivial⟩) (by simp) rfl
theorem cut_but {α : Type} (xs : List α) : cutL xs none (some (-1)) = xs.take (xs.length - 1) := by
  unfold cutL
  have e1 : sIx xs.length 0 none = 0 := rfl
  have e2 : sIx xs.length xs.length (some (-1)) = xs.length - 1 := by
    show (if (-1 : Int) < 0 then ((-1 : Int) + (xs.length : Int)).toNat else min (-1 : Int).toNat xs.length) = _
    rw [if_pos (by decide)]
    omega
  rw [e1, e2, List.drop_zero, Nat.sub_zero]
def ex_lastA : Ex := .bin .Add (.slc (.var 2) none (some (.neg (.int 1)))) (.lst [(.int 0)])
def ex_last : Ex := .ife (.cmp .Gt (.var 0) (.int 1)) ex_lastA (.lst [(.int 1)])
def LQ (b : Nat) (n : Int) (v : PV) (h : Hep) : Prop := ∃ (q : Nat) (xs : List PV), v = .ref q ∧ b ≤ q ∧ h[q]? = some (.lst xs) ∧ ∀ h'' : Hep, h''[q]? = some (.lst xs) → NoOrd h'' n (.ref q)
theorem last_ok {Γ : List Z.Spec} {σ : Z.Env} {h : Hep} {d r : Nat} {n : Int} (ld : d < h.length) (n1 : 1 ≤ n) (n3 : n ≤ 30) (e0 : σ[0]? = some (some (.int n))) (e2 : σ[2]? = some (some (.ref r))) (er : h[r]? = some (.lst ((ordI n).map PV.int))) : EvOk Γ σ (LQ h.length n) h ex_last := by
  intro h1 F E X k
  have ll := ordI_len (n := n) (by omega)
  have l1 := X.len
  unfold ex_last
  by_cases c : 1 < n
  · rw [wE]
    simp_arith [e0, c]
    refine but_ok (z := .int 0) (ez := .int 0) e2 (X _ _ er) (by rw [List.length_map]; omega) (fun h2 G _ g => by simp_arith []; exact g) fun q h2 X2 lq eq => k _ _ X2 ⟨q, _, rfl, by omega, eq, fun h'' eq => ?_⟩
    have ec : cutL ((ordI n).map PV.int) none (some (-1)) = ((ordI n).take ((ordI n).length - 1)).map PV.int := by
      rw [cut_but, List.length_map, List.map_take]
    rw [ec] at eq
    have z0 : (0 : Int) ∈ (ordI n).take ((ordI n).length - 1) := by
      have l0 : 0 < ((ordI n).take ((ordI n).length - 1)).length := by rw [List.length_take]; omega
      have e : ((ordI n).take ((ordI n).length - 1))[0] = 0 := by
        rw [List.getElem_take]
        unfold ordI
        rw [List.getElem_map, List.getElem_range]
        rfl
      rw [← e]
      exact List.getElem_mem l0
    have e3 : ((ordI n).take ((ordI n).length - 1)).map PV.int ++ [PV.int 0] = ((ordI n).take ((ordI n).length - 1) ++ [0]).map PV.int := by rw [List.map_append]; rfl
    rw [e3] at eq
    refine .inr ⟨q, _, rfl, eq, ?_, int_thg, .inr (.inr ⟨_, rfl, fun nd => ?_⟩)⟩
    · rw [List.length_map, List.length_append, List.length_take, List.length_singleton]; omega
    · exact (List.nodup_append.mp nd).2.2 0 z0 0 (List.mem_singleton_self _) rfl
  · rw [wE]
    simp_arith [e0, c]
    exact k _ _ .app ⟨_, _, rfl, by omega, new_get, fun h'' e => noOrd_el (z := .int 1) e (by simp) (one_thg trivial) (by simp) (am_no (.inr (by omega)))⟩
def es_oo : List Ex := [(.var 0), (.neg (.int 1)), (.bl true), .non, (.str "0"), (.lst [(.int 0)]), (.tup [(.int 0)]), (.bin .Pow (.int 10) (.int 30))]
theorem es_oo_ok {Γ : List Z.Spec} {σ : Z.Env} {h : Hep} {d : Nat} {n : Int} (ld : d < h.length) (e0 : σ[0]? = some (some (.int n))) (n2 : n ≤ 1000) : ∀ e ∈ es_oo, EvOk Γ σ (Stb d fun h v => OddO h n v) h e := by
  intro e m
  unfold es_oo at m
  simp only [List.mem_cons, List.not_mem_nil, or_false] at m
  rcases m with rfl | rfl | rfl | rfl | rfl | rfl | rfl | rfl
  · intro h1 F E X k; simp_arith [e0]; exact k _ _ .rfl' fun h'' _ => ⟨trivial, am_no (.inr (Int.le_refl _))⟩
  · intro h1 F E X k; simp_arith []; exact k _ _ .rfl' fun h'' _ => ⟨trivial, am_no (.inl (by decide))⟩
  · intro h1 F E X k; simp_arith []; exact k _ _ .rfl' fun h'' _ => ⟨trivial, rfl⟩
  · intro h1 F E X k; simp_arith []; exact k _ _ .rfl' fun h'' _ => ⟨trivial, rfl⟩
  · intro h1 F E X k; simp_arith []; exact k _ _ .rfl' fun h'' _ => ⟨trivial, rfl⟩
  · intro h1 F E X k
    have l1 := X.len
    simp_arith []
    exact k _ _ .app fun h'' X'' => ⟨⟨_, X''.2 _ _ (by omega) new_get, trivial⟩, rfl⟩
  · intro h1 F E X k; simp_arith []; exact k _ _ .rfl' fun h'' _ => ⟨trivial, rfl⟩
  · intro h1 F E X k
    exact pow30 (k _ _ .rfl' fun h'' _ => ⟨trivial, am_no (.inr (Int.le_trans n2 (by decide)))⟩)
def sp__law_no_order : Z.Spec := fun args h F _ => ∃ (n : Int) (d : Nat), args = [.int n, .ref d] ∧ 1 ≤ n ∧ n ≤ 30 ∧ IsDraw h d (10 ^ 9 + 300) ∧ ∀ (v : PV) (h' : Hep), ExtB d h h' → IsDraw h' d (10 ^ 9 + 310) → Stb d (fun h v => NoOrd h n v) v h' → F v h'
theorem mt__law_no_order : Meets [sp__law_next] 7 2 ir__law_no_order sp__law_no_order := by
  rintro args h F E ⟨n, d, rfl, n1, n3, dr, kf⟩
  refine ⟨rfl, ?_⟩
  rw [show ir__law_no_order = [.set (.nm 2) (.bi .listrange [(.var 0)]), .set (.nm 3) (.lst es_o1), .set (.nm 3) (.bin .Add (.var 3) (.lst es_o2)), .exp (.mi .append (.var 3) [ex_last]), .par 4 5 (.call 0 [(.var 1), (.int 30)]) (.call 0 [(.var 1), (.var 0)]), .set (.nm 6) (.idx (.lst es_oo) (.call 0 [(.var 1), (.int 8)])), .ret (.ife (.cmp .Lt (.var 4) (.int 15)) (.idx (.var 3) (.var 4)) (.bin .Add (.bin .Add (.slc (.var 2) none (some (.var 5))) (.lst [(.var 6)])) (.slc (.var 2) (some (.bin .Add (.var 5) (.int 1))) none)))] from rfl]
  show wSs _ _ [some _, some _, none, none, none, none, none] h _
  have ll := ordI_len (n := n) (by omega)
  have ld := dr.lt
  have c1 : n ≤ 16777216 := by omega
  have c2 : -4611686018427387904 ≤ n := by omega
  have eA : ((List.range n.toNat).map fun (i : Nat) => PV.int i) = (ordI n).map PV.int := by unfold ordI; rw [List.map_map]; rfl
  refine wSs_step ?_; simp_arith [c1, c2, eA]
  have er := new_get (h := h) (o := Ob.lst ((ordI n).map PV.int))
  have X0 : Ext h (h ++ [Ob.lst ((ordI n).map PV.int)]) := .app
  have D0 := IsDraw_ext dr X0
  have rd : h.length ≠ d := by omega
  generalize h ++ [Ob.lst ((ordI n).map PV.int)] = h0 at *
  generalize h.length = r at *
  refine wSs_step ?_
  rw [wS]
  refine lst_ok (Q := NOQ d n) Stb.mono (by decide) (es_o1_ok D0.lt n1 n3 rfl rfl er) fun q vs h1 X1 lq eq lv qv => ?_
  have D1 := IsDraw_ext D0 X1
  have er1 := X1 _ _ er
  try simp_arith []
  refine wSs_step ?_
  rw [wS, wE]
  have ev : ∀ {F : KQ} {E : KX}, F (.ref q) h1 → Z.wE [sp__law_next] (.var 3) [some (.int n), some (.ref d), some (.ref r), some (.ref q), none, none, none] h1 F E := fun {F E} k => by simp_arith []; exact k
  refine ev ?_
  refine lst_ok (Q := NOQ d n) Stb.mono (by decide) (es_o2_ok D1.lt rd n1 n3 rfl er1) fun q2 vs2 h2 X2 lq2 eq2 lv2 qv2 => ?_
  have D2 := IsDraw_ext D1 X2
  have er2 := X2 _ _ er1
  have b1 : vs.length + vs2.length ≤ 16777216 := by rw [lv, lv2]; decide
  simp_arith [X2 _ _ eq, eq2, b1]
  have g3 := new_get (h := h2) (o := Ob.lst (vs ++ vs2))
  have X3 : Ext h2 (h2 ++ [Ob.lst (vs ++ vs2)]) := .app
  have D3 := IsDraw_ext D2 X3
  have er3 := X3 _ _ er2
  have d2 := D2.lt
  have nq : h2.length ≠ d := by omega
  have q12 : ∀ v ∈ vs ++ vs2, NOQ d n v h2 := fun v m => (List.mem_append.mp m).elim (fun m => Stb.mono _ _ _ X2 (qv v m)) fun m => qv2 v m
  have l3 : h2.length < (h2 ++ [Ob.lst (vs ++ vs2)]).length := by simp
  have l2' : h2.length ≤ h2.length := Nat.le_refl _
  have X03 : Ext h0 (h2 ++ [Ob.lst (vs ++ vs2)]) := (X1.trans X2).trans X3
  have lv12 : (vs ++ vs2).length = 14 := by rw [List.length_append, lv, lv2]; rfl
  generalize h2 ++ [Ob.lst (vs ++ vs2)] = h3 at *
  obtain ⟨q3, hq3⟩ : ∃ q3, h2.length = q3 := ⟨_, rfl⟩
  rw [hq3] at g3 nq l3 ⊢
  generalize vs ++ vs2 = ws at *
  refine wSs_step ?_
  rw [wS, wE]
  have ev3 : ∀ {F : KQ} {E : KX}, F (.ref q3) h3 → Z.wE [sp__law_next] (.var 3) [some (.int n), some (.ref d), some (.ref r), some (.ref q3), none, none, none] h3 F E := fun {F E} k => by simp_arith []; exact k
  refine ev3 ?_
  refine ⟨by show getL h3 q3 fun _ => True; unfold getL; rw [g3]; trivial, ?_⟩
  rw [wEs]
  refine last_ok D3.lt n1 n3 rfl rfl er3 h3 _ _ .rfl' fun v h4 X4 ⟨q4, xs4, ev4, lq4, eq4, no4⟩ => ?_
  have D4 := IsDraw_ext D3 X4
  have g4 := X4 _ _ g3
  have b4 : ws.length < 16777216 := by rw [lv12]; decide
  simp_arith [g4, b4]
  have X5 : ExtB q3 h4 (h4.set q3 (.lst (ws ++ [v]))) := .set
  have g5 : (h4.set q3 (.lst (ws ++ [v])))[q3]? = some (.lst (ws ++ [v])) := set_get g4
  have D5 : IsDraw (h4.set q3 (.lst (ws ++ [v]))) d (10 ^ 9 + 300) := by
    obtain ⟨c, m, o, e, rr⟩ := D4
    exact ⟨c, m, o, X5.2 _ _ (Ne.symm nq) e, rr⟩
  have E25 : ExtB d h2 (h4.set q3 (.lst (ws ++ [v]))) := ((X3.trans X4).set' (by omega)).b
  have X05 : ExtB d h (h4.set q3 (.lst (ws ++ [v]))) := (X0.trans (X1.trans X2)).b.trans E25
  have er5 : (h4.set q3 (.lst (ws ++ [v])))[r]? = some (.lst ((ordI n).map PV.int)) := E25.2 _ _ rd er2
  have qa : ∀ x ∈ ws ++ [v], NOQ d n x (h4.set q3 (.lst (ws ++ [v]))) := fun x m => by
    rcases List.mem_append.mp m with m | m
    · exact fun h'' X'' => q12 x m h'' (E25.trans X'')
    · rw [List.mem_singleton.mp m]
      intro h'' X''
      show NoOrd h'' n v
      rw [ev4]
      exact no4 h'' (X''.2 _ _ (by omega) (X5.2 _ _ (by omega) eq4))
  have lva : (ws ++ [v]).length = 15 := by rw [List.length_append, lv12]; rfl
  generalize h4.set q3 (.lst (ws ++ [v])) = h5 at *
  generalize ws ++ [v] = us at *
  refine wSs_step ?_; simp_arith []
  refine next_step D5 (by decide) (by decide) (by decide) fun w h6 w1 w2 D6 X6 => ?_
  try simp_arith []
  refine next_step D6 (by decide) n1 (by omega) fun a h7 a1 a2 D7 X7 => ?_
  try simp_arith []
  have g7 := X7.2 _ _ nq (X6.2 _ _ nq g5)
  have er7 := X7.2 _ _ rd (X6.2 _ _ rd er5)
  refine wSs_step ?_
  rw [wS, wE]
  refine lst_ok (Q := Stb d fun h v => OddO h n v) Stb.mono (by decide) (es_oo_ok D7.lt rfl (by omega)) fun q8 vs8 h8 X8 lq8 eq8 lv8 qv8 => ?_
  have D8 := IsDraw_ext D7 X8
  have nq8 : q8 ≠ d := by have := D7.lt; omega
  try simp_arith []
  refine next_step D8 (by decide) (by decide) (by decide) fun b h9 b1 b2 D9 X9 => ?_
  obtain ⟨z, i1, i2, mz⟩ := idx_get (n := 8) lv8 b1 b2
  have oz := qv8 z mz
  simp_arith [X9.2 _ _ nq8 eq8, i1, i2]
  have g9 := X9.2 _ _ nq (X8 _ _ g7)
  have er9 := X9.2 _ _ rd (X8 _ _ er7)
  have X59 : ExtB d h5 h9 := ((X6.trans X7).trans X8.b).trans X9
  by_cases c : w < 15
  · obtain ⟨x, j1, j2, mx⟩ := idx_get (n := 15) lva w1 c
    refine wSs_step ?_; simp_arith [c, g9, j1, j2]
    exact kf _ _ (X05.trans X59) (D9.le (by decide)) fun h'' X'' => qa x mx h'' (X59.trans X'')
  · refine wSs_step ?_
    rw [wS, wE]
    have ec : ∀ {G : KQ} {E : KX}, G (.bl false) h9 → Z.wE [sp__law_next] (.cmp .Lt (.var 4) (.int 15)) [some (.int n), some (.ref d), some (.ref r), some (.ref q3), some (.int w), some (.int a), some z] h9 G E := fun {G E} k => by simp_arith [c]; exact k
    refine ec ?_
    simp only [truW, Bool.false_eq_true, if_false]
    refine mid_ok (i := 2) (j := 5) (z := z) rfl rfl er9 (by rw [List.length_map]; omega) (fun h10 G X10 kG => by simp_arith []; exact kG) fun q10 h10 X10 lq10 e10 => ?_
    refine kf _ _ ((X05.trans X59).trans X10.b) ((IsDraw_ext D9 X10).le (by decide)) fun h'' X'' => ?_
    have d9 := D9.lt
    have la := cut_len ((ordI n).map PV.int) none (some a)
    have lb := cut_len ((ordI n).map PV.int) (some (a + 1)) none
    rw [List.length_map] at la lb
    have ozz := oz h'' ((X9.trans X10.b).trans X'')
    exact noOrd_el (z := z) (X''.2 _ _ (by omega) e10) (by simp only [List.length_append, List.length_singleton]; omega) (app_thg (app_thg cut_thg (one_thg ozz.1)) cut_thg) (by simp) ozz.2
end Law

/-! k42qg: the law -/
namespace Law
open PySem Z Com
abbrev G42 (T : Nat) (cl : List (Str × Addr)) : List Z.Spec := [sp__law_rows, sp__law_draw, sp__law_no_rows, sp__law_no_set, sp__law_no_order, sp__law_next, tokS T (lamQ "law"), cellS (lamQ "law") cl, sp_least_span, sp_set_bound, sp_span_of, sp__law_said]
abbrev lmP (cl : List (Str × Addr)) (n : Nat) : PV := .lam lams_law n (lamQ "law") cl
/-- what the lambdas lean on -/
structure Asked (h : Hep) (r g : Nat) (rows : Rows) (v5 v6 v7 v9 : PV) : Prop where
  gr : GoodR h r rows
  bad : BadR h v5
  ns : NoSet h rows.length v6
  no : NoOrd h rows.length v7
  eg : h[g]? = some (.lst ((ordI rows.length).map PV.int))
  bs : BadS h v9
theorem Asked.ext {h h' : Hep} {r g : Nat} {rows : Rows} {v5 v6 v7 v9 : PV} (a : Asked h r g rows v5 v6 v7 v9) (X : Ext h h') : Asked h' r g rows v5 v6 v7 v9 := ⟨a.gr.ext X, a.bad.ext X, a.ns.ext X, a.no.ext X, X _ _ a.eg, a.bs.ext X⟩
theorem first_ok {T n : Nat} {cl : List (Str × Addr)} {σ : Z.Env} {h : Hep} {D : Dz} (e0 : h[0]? = some (.tab T (lamQ "law"))) (k : ∀ q h', Ext h h' → h.length ≤ q → h'[q]? = some (.lst [lmP cl n]) → D.nx (σ.set 10 (some (.ref q))) h') : wS (G42 T cl) (.set (.nm 10) (.lst [(.lmv 6 7 lams_law n)])) σ h D := by
  simp_arith []
  refine ⟨rfl, e0, lams_law, n, rfl, ?_⟩
  try simp_arith []
  exact k _ _ .app (Nat.le_refl _) new_get
theorem app_ok {T n q : Nat} {cl : List (Str × Addr)} {σ : Z.Env} {h0 h : Hep} {xs : List PV} {D : Dz} (e0 : h0[0]? = some (.tab T (lamQ "law"))) (es : σ[10]? = some (some (.ref q))) (X : Ext h0 h) (lq : h0.length ≤ q) (g : h[q]? = some (.lst xs)) (lx : xs.length < 16777216)
    (k : ∀ h', Ext h0 h' → h'[q]? = some (.lst (xs ++ [lmP cl n])) → D.nx σ h') : wS (G42 T cl) (.exp (.mi .append (.var 10) [(.lmv 6 7 lams_law n)])) σ h D := by
  simp_arith [es, g]
  refine ⟨rfl, X _ _ e0, lams_law, n, rfl, ?_⟩
  simp_arith [g, lx]
  exact k _ (X.set' lq) (set_get g)
theorem comsK_f {G : KQ} {v : PV} {h : Hep} (k : G v h) : comsK false G v h := by
  unfold comsK
  rw [if_neg (by decide)]
  exact k
theorem comsK_t {G : KQ} {r : Nat} {xs : List PV} {h : Hep} (e : h[r]? = some (.lst xs)) (k : G (.bl true) h) : comsK true G (.ref r) h := by
  unfold comsK
  rw [if_pos rfl]
  simp_arith [e]
  exact k
abbrev S42 (y0 y1 y4 y10 y11 : Option PV) (r g : Nat) (rows : Rows) (v5 v6 v7 v9 : PV) : Z.Env := [y0, y1, some (.ref r), some (.int rows.length), y4, some v5, some v6, some v7, some (.ref g), some v9, y10, y11]
theorem ans_rows {T : Nat} {cl : List (Str × Addr)} {y0 y1 y4 y10 y11 : Option PV} {r g n : Nat} {rows : Rows} {v5 v6 v7 v9 : PV} {h : Hep} (A : Asked h r g rows v5 v6 v7 v9) (c : n = 0 ∨ n = 1 ∨ n = 2) : LamAns (G42 T cl) 11 bs_law false (S42 y0 y1 y4 y10 y11 r g rows v5 v6 v7 v9) n (.str "rows") h := by
  refine ⟨_, rfl, fun h1 G X kG => ?_⟩
  have A1 := A.ext X
  rcases c with rfl | rfl | rfl
  · simp only [bs_law, wN]
    simp_arith []
    exact .inr ⟨_, rfl, A1.bad, fun h' X' => .inr (.inl ⟨rfl, fun h'' X'' => comsK_f (kG _ (X'.trans X''))⟩)⟩
  · simp only [bs_law, wN]
    simp_arith []
    exact .inr (.inl ⟨_, _, _, rfl, A1.bad, fun h' X' => .inr (.inl ⟨rfl, fun h'' X'' => comsK_f (kG _ (X'.trans X''))⟩)⟩)
  · simp only [bs_law, wN]
    simp_arith []
    exact .inr (.inl ⟨_, _, _, rfl, A1.bad, fun h' X' => .inr (.inl ⟨rfl, fun h'' X'' => comsK_f (kG _ (X'.trans X''))⟩)⟩)
theorem ans_tasks {T : Nat} {cl : List (Str × Addr)} {y0 y1 y4 y10 y11 : Option PV} {r g n : Nat} {rows : Rows} {v5 v6 v7 v9 : PV} {h : Hep} (A : Asked h r g rows v5 v6 v7 v9) (c : n = 3 ∨ n = 4 ∨ n = 5 ∨ n = 6 ∨ n = 7) : LamAns (G42 T cl) 11 bs_law false (S42 y0 y1 y4 y10 y11 r g rows v5 v6 v7 v9) n (.str "tasks") h := by
  refine ⟨_, rfl, fun h1 G X kG => ?_⟩
  have A1 := A.ext X
  have fin : ∀ h', Ext h1 h' → sp__law_said [.bl false, keptV tasksX] h' (comsK false G) noX := fun h' X' => .inr (.inr ⟨rfl, fun h'' X'' => comsK_f (kG _ (X'.trans X''))⟩)
  have go : GoodOrder rows.length (ordI rows.length) := ordI_good (by omega)
  rcases c with rfl | rfl | rfl | rfl | rfl
  · simp only [bs_law, wN]
    simp_arith []
    exact .inr (.inr ⟨_, rows, _, _, rfl, A1.gr, .inl A1.bs, fin⟩)
  · simp only [bs_law, wN]
    simp_arith []
    exact .inr (.inr ⟨_, rows, _, _, rfl, A1.gr, .inr ⟨true, rfl, A1.ns⟩, fin⟩)
  · simp only [bs_law, wN]
    simp_arith []
    exact .inr (.inr ⟨_, rows, _, _, rfl, A1.gr, .inr ⟨false, rfl, A1.ns⟩, fin⟩)
  · simp only [bs_law, wN]
    simp_arith []
    exact .inr (.inr ⟨_, rows, _, _, rfl, A1.gr, .inl A1.no, fin⟩)
  · simp only [bs_law, wN]
    simp_arith []
    exact .inr (.inr ⟨_, rows, _, _, rfl, A1.gr, .inr ⟨_, _, rfl, A1.eg, go, A1.no⟩, fin⟩)
theorem ans_good {T : Nat} {cl : List (Str × Addr)} {y0 y1 y4 y10 y11 : Option PV} {r g n : Nat} {rows : Rows} {v5 v6 v7 v9 : PV} {h : Hep} (A : Asked h r g rows v5 v6 v7 v9) (c : n = 8 ∨ n = 9 ∨ n = 10) : LamAns (G42 T cl) 11 bs_law true (S42 y0 y1 y4 y10 y11 r g rows v5 v6 v7 v9) n (.bl true) h := by
  refine ⟨_, rfl, fun h1 G X kG => ?_⟩
  have A1 := A.ext X
  have fin : ∀ v h', Ext h1 h' → sp__law_said [.bl true, v] h' (comsK true G) noX := fun v h' X' => .inl ⟨v, rfl, fun rr h'' X'' e => comsK_t e (kG _ (X'.trans X''))⟩
  have l1 := A.gr.l1
  have go : GoodOrder rows.length (ordI rows.length) := ordI_good (by omega)
  rcases c with rfl | rfl | rfl
  · simp only [bs_law, wN]
    simp_arith []
    exact .inl ⟨r, rows, rfl, A1.gr.ea, A1.gr.l1, A1.gr.l2, A1.gr.good, fun r2 fr S h' X' _ _ _ _ => fin _ _ X'⟩
  · simp only [bs_law, wN]
    simp_arith []
    refine .inl ⟨r, rows, false, [(rows.length : Int) - 1], rfl, A1.gr.ea, A1.gr.l1, A1.gr.l2, A1.gr.good, ⟨by simp, fun i m => ?_, by simp⟩, fun h' X' => fin _ _ X'⟩
    rw [List.mem_singleton.mp m]
    omega
  · simp only [bs_law, wN]
    simp_arith [A1.eg]
    have X2 : Ext h1 (h1 ++ [Ob.lst ((ordI rows.length).map PV.int).reverse]) := .app
    have e2 := new_get (h := h1) (o := Ob.lst ((ordI rows.length).map PV.int).reverse)
    rw [← List.map_reverse] at X2 e2 ⊢
    have A2 := A1.ext X2
    exact .inl ⟨r, g, _, rows, _, _, rfl, ⟨A2.gr.ea, A2.eg, e2, A2.gr.l1, A2.gr.l2, A2.gr.good, go, rng_order _ (by omega) _ (List.reverse_perm _)⟩, fun h' X' => fin _ _ (X2.trans X')⟩
def ex_c1 : Ex := .coms 11 6 7 11 10 lams_law bs_law false
def ex_c2 : Ex := .coms 11 6 7 11 10 lams_law bs_law true
def ex_r3 : Ex := .bin .Mult (.lst [(.str "rows")]) (.int 3)
def ex_t5 : Ex := .bin .Mult (.lst [(.str "tasks")]) (.int 5)
theorem r3_ok {Γ : List Z.Spec} {σ : Z.Env} {h : Hep} {F : KQ} {E : KX} : Z.wE Γ ex_r3 σ h F E = F (.ref (h.length + 1)) (h ++ [.lst [.str "rows"]] ++ [.lst [.str "rows", .str "rows", .str "rows"]]) := by
  have t : (3 : Int).toNat = 3 := rfl
  have e : (h ++ [Ob.lst [PV.str "rows"]]).length = h.length + 1 := by simp
  unfold ex_r3
  simp_arith [new_get, t]
  rw [e]
  exact propext ⟨fun z => z.2, fun z => ⟨by decide, z⟩⟩
theorem t5_ok {Γ : List Z.Spec} {σ : Z.Env} {h : Hep} {F : KQ} {E : KX} : Z.wE Γ ex_t5 σ h F E = F (.ref (h.length + 1)) (h ++ [.lst [.str "tasks"]] ++ [.lst [.str "tasks", .str "tasks", .str "tasks", .str "tasks", .str "tasks"]]) := by
  have t : (5 : Int).toNat = 5 := rfl
  have e : (h ++ [Ob.lst [PV.str "tasks"]]).length = h.length + 1 := by simp
  unfold ex_t5
  simp_arith [new_get, t]
  rw [e]
  exact propext ⟨fun z => z.2, fun z => ⟨by decide, z⟩⟩
def ir_a1 : List Sm := [.set (.nm 10) (.lst [(.lmv 6 7 lams_law 0)]), .exp (.mi .append (.var 10) [(.lmv 6 7 lams_law 1)]), .exp (.mi .append (.var 10) [(.lmv 6 7 lams_law 2)]), .ife (.cmp .NotEq ex_c1 ex_r3) [.ret (.bl false)] []]
def ir_a2 : List Sm := [.set (.nm 10) (.lst [(.lmv 6 7 lams_law 3)]), .exp (.mi .append (.var 10) [(.lmv 6 7 lams_law 4)]), .exp (.mi .append (.var 10) [(.lmv 6 7 lams_law 5)]), .exp (.mi .append (.var 10) [(.lmv 6 7 lams_law 6)]), .exp (.mi .append (.var 10) [(.lmv 6 7 lams_law 7)]), .ife (.cmp .NotEq ex_c1 ex_t5) [.ret (.bl false)] []]
def ir_a3 : List Sm := [.set (.nm 10) (.lst [(.lmv 6 7 lams_law 8)]), .exp (.mi .append (.var 10) [(.lmv 6 7 lams_law 9)]), .exp (.mi .append (.var 10) [(.lmv 6 7 lams_law 10)]), .ife (.not (.bi .all [ex_c2])) [.ret (.bl false)] []]
theorem a1_ok {T : Nat} {cl : List (Str × Addr)} {y0 y1 y4 y10 y11 : Option PV} {r g : Nat} {rows : Rows} {v5 v6 v7 v9 : PV} {h : Hep} {D : Dz} (e0 : h[0]? = some (.tab T (lamQ "law"))) (A : Asked h r g rows v5 v6 v7 v9)
    (k : ∀ y10 h', Ext h h' → D.nx (S42 y0 y1 y4 y10 y11 r g rows v5 v6 v7 v9) h') : wSs (G42 T cl) ir_a1 (S42 y0 y1 y4 y10 y11 r g rows v5 v6 v7 v9) h D := by
  unfold ir_a1
  refine wSs_step ?_
  refine first_ok e0 fun q h1 X1 lq g1 => ?_
  refine wSs_step ?_
  refine app_ok (h0 := h) e0 rfl X1 lq g1 (by show 1 < 16777216; decide) fun h2 X2 g2 => ?_
  refine wSs_step ?_
  refine app_ok (h0 := h) e0 rfl X2 lq g2 (by show 2 < 16777216; decide) fun h3 X3 g3 => ?_
  have A3 := A.ext X3
  refine wSs_step ?_
  rw [wS, wE]
  refine coms_ok (ns := [0, 1, 2]) (as := [.str "rows", .str "rows", .str "rows"]) rfl g3 rfl (by show 11 < 12; decide) rfl (by decide) (fun j n a e1 e2 => ?_) fun q4 h4 X4 e4 => ?_
  · match j, e1, e2 with
    | 0, e1, e2 => cases e1; cases e2; exact ans_rows A3 (.inl rfl)
    | 1, e1, e2 => cases e1; cases e2; exact ans_rows A3 (.inr (.inl rfl))
    | 2, e1, e2 => cases e1; cases e2; exact ans_rows A3 (.inr (.inr rfl))
    | j + 3, e1, _ => cases e1
  · rw [r3_ok]
    have X5 : Ext h4 (h4 ++ [.lst [.str "rows"]] ++ [.lst [.str "rows", .str "rows", .str "rows"]]) := Ext.app.trans .app
    have g5 := new_get (h := h4 ++ [.lst [.str "rows"]]) (o := .lst [.str "rows", .str "rows", .str "rows"])
    rw [show (h4 ++ [Ob.lst [PV.str "rows"]]).length = h4.length + 1 by simp] at g5
    simp only [cmpW]
    refine eqW_same (dat_lst (n := 59) (X5 _ _ e4) rfl) (dat_lst (n := 59) g5 rfl) (by decide +kernel) ?_
    simp_arith []
    exact k _ _ ((X3.trans X4).trans X5)
theorem a2_ok {T : Nat} {cl : List (Str × Addr)} {y0 y1 y4 y10 y11 : Option PV} {r g : Nat} {rows : Rows} {v5 v6 v7 v9 : PV} {h : Hep} {D : Dz} (e0 : h[0]? = some (.tab T (lamQ "law"))) (A : Asked h r g rows v5 v6 v7 v9)
    (k : ∀ y10 h', Ext h h' → D.nx (S42 y0 y1 y4 y10 y11 r g rows v5 v6 v7 v9) h') : wSs (G42 T cl) ir_a2 (S42 y0 y1 y4 y10 y11 r g rows v5 v6 v7 v9) h D := by
  unfold ir_a2
  refine wSs_step ?_
  refine first_ok e0 fun q h1 X1 lq g1 => ?_
  refine wSs_step ?_
  refine app_ok (h0 := h) e0 rfl X1 lq g1 (by show 1 < 16777216; decide) fun h2 X2 g2 => ?_
  refine wSs_step ?_
  refine app_ok (h0 := h) e0 rfl X2 lq g2 (by show 2 < 16777216; decide) fun h2 X2 g2 => ?_
  refine wSs_step ?_
  refine app_ok (h0 := h) e0 rfl X2 lq g2 (by show 3 < 16777216; decide) fun h2 X2 g2 => ?_
  refine wSs_step ?_
  refine app_ok (h0 := h) e0 rfl X2 lq g2 (by show 4 < 16777216; decide) fun h3 X3 g3 => ?_
  have A3 := A.ext X3
  refine wSs_step ?_
  rw [wS, wE]
  refine coms_ok (ns := [3, 4, 5, 6, 7]) (as := [.str "tasks", .str "tasks", .str "tasks", .str "tasks", .str "tasks"]) rfl g3 rfl (by show 11 < 12; decide) rfl (by decide) (fun j n a e1 e2 => ?_) fun q4 h4 X4 e4 => ?_
  · match j, e1, e2 with
    | 0, e1, e2 => cases e1; cases e2; exact ans_tasks A3 (.inl rfl)
    | 1, e1, e2 => cases e1; cases e2; exact ans_tasks A3 (.inr (.inl rfl))
    | 2, e1, e2 => cases e1; cases e2; exact ans_tasks A3 (.inr (.inr (.inl rfl)))
    | 3, e1, e2 => cases e1; cases e2; exact ans_tasks A3 (.inr (.inr (.inr (.inl rfl))))
    | 4, e1, e2 => cases e1; cases e2; exact ans_tasks A3 (.inr (.inr (.inr (.inr rfl))))
    | j + 5, e1, _ => cases e1
  · rw [t5_ok]
    have X5 : Ext h4 (h4 ++ [.lst [.str "tasks"]] ++ [.lst [.str "tasks", .str "tasks", .str "tasks", .str "tasks", .str "tasks"]]) := Ext.app.trans .app
    have g5 := new_get (h := h4 ++ [.lst [.str "tasks"]]) (o := .lst [.str "tasks", .str "tasks", .str "tasks", .str "tasks", .str "tasks"])
    rw [show (h4 ++ [Ob.lst [PV.str "tasks"]]).length = h4.length + 1 by simp] at g5
    simp only [cmpW]
    refine eqW_same (dat_lst (n := 59) (X5 _ _ e4) rfl) (dat_lst (n := 59) g5 rfl) (by decide +kernel) ?_
    simp_arith []
    exact k _ _ ((X3.trans X4).trans X5)
theorem a3_ok {T : Nat} {cl : List (Str × Addr)} {y0 y1 y4 y10 y11 : Option PV} {r g : Nat} {rows : Rows} {v5 v6 v7 v9 : PV} {h : Hep} {D : Dz} (e0 : h[0]? = some (.tab T (lamQ "law"))) (A : Asked h r g rows v5 v6 v7 v9)
    (k : ∀ y10 h', Ext h h' → D.nx (S42 y0 y1 y4 y10 y11 r g rows v5 v6 v7 v9) h') : wSs (G42 T cl) ir_a3 (S42 y0 y1 y4 y10 y11 r g rows v5 v6 v7 v9) h D := by
  unfold ir_a3
  refine wSs_step ?_
  refine first_ok e0 fun q h1 X1 lq g1 => ?_
  refine wSs_step ?_
  refine app_ok (h0 := h) e0 rfl X1 lq g1 (by show 1 < 16777216; decide) fun h2 X2 g2 => ?_
  refine wSs_step ?_
  refine app_ok (h0 := h) e0 rfl X2 lq g2 (by show 2 < 16777216; decide) fun h3 X3 g3 => ?_
  have A3 := A.ext X3
  refine wSs_step ?_
  rw [wS, wE, wE, wEs]
  refine coms_ok (ns := [8, 9, 10]) (as := [.bl true, .bl true, .bl true]) rfl g3 rfl (by show 11 < 12; decide) rfl (by decide) (fun j n a e1 e2 => ?_) fun q4 h4 X4 e4 => ?_
  · match j, e1, e2 with
    | 0, e1, e2 => cases e1; cases e2; exact ans_good A3 (.inl rfl)
    | 1, e1, e2 => cases e1; cases e2; exact ans_good A3 (.inr (.inl rfl))
    | 2, e1, e2 => cases e1; cases e2; exact ans_good A3 (.inr (.inr rfl))
    | j + 3, e1, _ => cases e1
  · simp_arith [e4]
    refine ⟨[true, true, true], rfl, ?_⟩
    simp_arith [List.all_cons, List.all_nil, id]
    exact k _ _ (X3.trans X4)
def es_side : List Ex := [.non, (.str ""), (.str "Front"), (.str "side"), (.int 0), (.bl true), (.lst [(.str "front")]), (.tup [(.str "back")])]
theorem es_side_ok {Γ : List Z.Spec} {σ : Z.Env} {h : Hep} {d : Nat} (ld : d < h.length) : ∀ e ∈ es_side, EvOk Γ σ (Stb d BadS) h e := by
  intro e m
  unfold es_side at m
  simp only [List.mem_cons, List.not_mem_nil, or_false] at m
  rcases m with rfl | rfl | rfl | rfl | rfl | rfl | rfl | rfl
  · intro h1 F E X k; simp_arith []; exact k _ _ .rfl' fun h'' _ => .inl trivial
  · intro h1 F E X k; simp_arith []; exact k _ _ .rfl' fun h'' _ => .inr (.inl rfl)
  · intro h1 F E X k; simp_arith []; exact k _ _ .rfl' fun h'' _ => .inr (.inr (.inl rfl))
  · intro h1 F E X k; simp_arith []; exact k _ _ .rfl' fun h'' _ => .inr (.inr (.inr rfl))
  · intro h1 F E X k; simp_arith []; exact k _ _ .rfl' fun h'' _ => .inl trivial
  · intro h1 F E X k; simp_arith []; exact k _ _ .rfl' fun h'' _ => .inl trivial
  · intro h1 F E X k
    have l1 := X.len
    simp_arith []
    exact k _ _ .app fun h'' X'' => .inl ⟨_, X''.2 _ _ (by omega) new_get, trivial⟩
  · intro h1 F E X k; simp_arith []; exact k _ _ .rfl' fun h'' _ => .inl trivial
theorem Draw_of {ns : List Int} {k : Int} {h : Hep} {G : KQ} {E : KX} (l : ns.length ≤ 63) (k1 : 0 ≤ k) (k2 : k ≤ 10 ^ 6) (q : ∀ (r : Nat) (h' : Hep), Ext h h' → h.length ≤ r → IsDraw h' r (10 ^ 9) → G (.ref r) h') : sp__law_draw [.ils (ns.map PV.int), .int k] h G E :=
  ⟨ns, k, rfl, l, k1, k2, q⟩
theorem wSs_app42 {Γ : List Z.Spec} {b : List Sm} {D : Dz} : ∀ (a : List Sm) (σ : Z.Env) (h : Hep), Z.wSs Γ (a ++ b) σ h D = Z.wSs Γ a σ h { D with nx := fun σ' h' => Z.wSs Γ b σ' h' D }
  | [], _, _ => rfl
  | s :: r, σ, h => by
    show Z.wS Γ s σ h { D with nx := fun σ' h' => Z.wSs Γ (r ++ b) σ' h' D } = Z.wS Γ s σ h { D with nx := fun σ' h' => Z.wSs Γ r σ' h' { D with nx := fun σ' h' => Z.wSs Γ b σ' h' D } }
    rw [show (fun σ' h' => Z.wSs Γ (r ++ b) σ' h' D) = fun σ' h' => Z.wSs Γ r σ' h' { D with nx := fun σ' h' => Z.wSs Γ b σ' h' D } from funext fun σ' => funext fun h' => wSs_app42 r σ' h']
theorem wSs_append42 {Γ : List Z.Spec} {a b : List Sm} {σ : Z.Env} {h : Hep} {D : Dz} (w : Z.wSs Γ a σ h { D with nx := fun σ' h' => Z.wSs Γ b σ' h' D }) : Z.wSs Γ (a ++ b) σ h D := by rw [wSs_app42]; exact w
def ir_side : Sm := .set (.nm 9) (.idx (.lst es_side) (.call 5 [(.var 4), (.int 8)]))
theorem mt_law : ∀ T cl, Meets (G42 T cl) 12 1 ir_law (spLawT T (lamQ "law") 63) := by
  rintro T cl args h F E ⟨ns, rfl, rfl, l, kf⟩
  refine ⟨rfl, ?_⟩
  rw [show ir_law = [.for_ (.nm 1) (.rng1 (.bi .min2 [(.int 20), (.bin .Add (.int 2) (.bi .len [(.var 0)]))])) ([.set (.nm 2) (.call 0 [(.call 1 [(.var 0), (.var 1)]), (.int 30)]), .set (.nm 3) (.bi .len [(.var 2)]), .set (.nm 4) (.call 1 [(.var 0), (.bin .Add (.int 20) (.var 1))]), .set (.tp [(.nm 5), (.nm 6), (.nm 7)]) (.tup [(.call 2 [(.var 2), (.var 4)]), (.call 3 [(.var 3), (.var 4)]), (.call 4 [(.var 3), (.var 4)])]), .set (.nm 8) (.bi .listrange [(.var 3)]), ir_side] ++ (ir_a1 ++ (ir_a2 ++ ir_a3))), .ret (.bl true)] from rfl]
  show wSs _ _ [some _, none, none, none, none, none, none, none, none, none, none, none] _ _
  refine wSs_step ?_; simp_arith []
  refine ⟨by omega, by omega, ?_⟩
  refine wFor_ind (fun rest σ h' => (∀ x ∈ rest, ∃ t : Int, x = .int t ∧ 0 ≤ t ∧ t < 100) ∧ h'[0]? = some (.tab T (lamQ "law")) ∧ ∃ y1 y2 y3 y4 y5 y6 y7 y8 y9 y10 y11 : Option PV, σ = [some (.ils (ns.map PV.int)), y1, y2, y3, y4, y5, y6, y7, y8, y9, y10, y11]) _ _ _ ⟨fun x hx => ?_, rfl, _, _, _, _, _, _, _, _, _, _, _, rfl⟩ ?_ ?_
  · unfold rngL at hx
    obtain ⟨i, hi, rfl⟩ := List.mem_map.mp hx
    have := List.mem_range.mp hi
    exact ⟨_, rfl, by omega, by omega⟩
  · rintro x rest σ h ⟨hr, e0, y1, y2, y3, y4, y5, y6, y7, y8, y9, y10, y11, rfl⟩
    obtain ⟨t, rfl, t0, t1⟩ := hr _ List.mem_cons_self
    have l0 := lt_of_get e0
    refine ⟨trivial, _, rfl, fun K hK => ?_⟩
    show wSs _ _ [some _, some _, y2, y3, y4, y5, y6, y7, y8, y9, y10, y11] _ _
    refine wSs_step ?_; simp_arith []
    refine Draw_of l t0 (by omega) fun d h1 X1 ld D1 => ?_
    have e1 := X1 _ _ e0
    try simp_arith []
    refine ⟨d, 30, rfl, D1, by decide, by decide, fun r h2 rows X2 lr er r1 r2 gr => ?_⟩
    have e2 := X2.2 _ _ (by omega) e1
    have g2 : GoodR h2 r rows := ⟨er, r1, by omega, gr⟩
    try simp_arith []
    refine wSs_step ?_; simp_arith [er]
    refine wSs_step ?_; simp_arith []
    refine Draw_of l (by omega) (by omega) fun d2 h3 X3 ld2 D3 => ?_
    have e3 := X3 _ _ e2
    have g3 := g2.ext X3
    have nd : r ≠ d2 := by have := lt_of_get er; omega
    have nd0 : (0 : Nat) ≠ d2 := by have := lt_of_get e2; omega
    try simp_arith []
    refine wSs_step ?_; simp_arith []
    refine ⟨r, d2, rows, rfl, g3, nd, D3.le (by decide), fun v5 h4 X4 D4 q5 => ?_⟩
    have er4 := X4.2 _ _ nd g3.ea
    try simp_arith []
    refine ⟨rows.length, d2, rfl, by omega, by omega, D4.le (by decide), fun v6 h5 X5 D5 q6 => ?_⟩
    try simp_arith []
    refine ⟨rows.length, d2, rfl, by omega, by omega, D5.le (by decide), fun v7 h6 X6 D6 q7 => ?_⟩
    have X36 := (X4.trans X5).trans X6
    try simp_arith []
    have c1 : (rows.length : Int) ≤ 16777216 := by omega
    have c2 : -4611686018427387904 ≤ (rows.length : Int) := by omega
    have eA : ((List.range rows.length).map fun (i : Nat) => PV.int i) = (ordI rows.length).map PV.int := by unfold ordI; rw [List.map_map, Int.toNat_natCast]; rfl
    refine wSs_step ?_; simp_arith [c1, c2, eA]
    have eg := new_get (h := h6) (o := Ob.lst ((ordI rows.length).map PV.int))
    have X7 : Ext h6 (h6 ++ [Ob.lst ((ordI rows.length).map PV.int)]) := .app
    have D7 := IsDraw_ext D6 X7
    have ng : h6.length ≠ d2 := by have := D6.lt; omega
    generalize h6 ++ [Ob.lst ((ordI rows.length).map PV.int)] = h7 at *
    generalize h6.length = g at *
    have X37 := X36.trans X7.b
    refine wSs_step ?_
    unfold ir_side
    rw [wS, wE]
    refine lst_ok (Q := Stb d2 BadS) Stb.mono (by decide) (es_side_ok D7.lt) fun q8 vs8 h8 X8 lq8 eq8 lv8 qv8 => ?_
    have D8 := IsDraw_ext D7 X8
    have nq8 : q8 ≠ d2 := by have := D7.lt; omega
    try simp_arith []
    refine next_step (D8.le (show _ ≤ (10 : Int) ^ 9 + 400 by decide)) (by decide) (by decide) (by decide) fun b h9 b1 b2 D9 X9 => ?_
    obtain ⟨z, i1, i2, mz⟩ := idx_get (n := 8) lv8 b1 b2
    simp_arith [X9.2 _ _ nq8 eq8, i1, i2]
    have X39 := (X37.trans X8.b).trans X9
    have X49 : ExtB d2 h4 h9 := (((X5.trans X6).trans X7.b).trans X8.b).trans X9
    have X59 : ExtB d2 h5 h9 := ((X6.trans X7.b).trans X8.b).trans X9
    have X69 : ExtB d2 h6 h9 := (X7.b.trans X8.b).trans X9
    have A : Asked h9 r g rows v5 v6 v7 z := ⟨⟨X39.2 _ _ nd g3.ea, r1, by omega, gr⟩, q5 _ X49, q6 _ X59, q7 _ X69, X9.2 _ _ ng (X8 _ _ eg), qv8 z mz _ X9⟩
    have e9 := X39.2 _ _ nd0 e3
    have e9 := X39.2 _ _ nd0 e3
    have fin : ∀ (σ : Z.Env) (h' : Hep), (∃ y1 y2 y3 y4 y5 y6 y7 y8 y9 y10 y11 : Option PV, σ = [some (.ils (ns.map PV.int)), y1, y2, y3, y4, y5, y6, y7, y8, y9, y10, y11]) → h'[0]? = some (.tab T (lamQ "law")) → K σ h' := fun σ h' ⟨y1, y2, y3, y4, y5, y6, y7, y8, y9, y10, y11, e⟩ e' => hK _ _ ⟨fun x hx => hr x (List.mem_cons_of_mem _ hx), e', y1, y2, y3, y4, y5, y6, y7, y8, y9, y10, y11, e⟩
    show wSs _ (ir_a1 ++ (ir_a2 ++ ir_a3)) _ _ _
    refine wSs_append42 ?_
    refine a1_ok e9 A fun y10 h10 X10 => ?_
    have A10 := A.ext X10
    have e10 := X10 _ _ e9
    dsimp only
    refine wSs_append42 ?_
    refine a2_ok e10 A10 fun y10 h11 X11 => ?_
    refine a3_ok (X11 _ _ e10) (A10.ext X11) fun y10 h12 X12 => ?_
    exact fin _ _ ⟨_, _, _, _, _, _, _, _, _, _, _, rfl⟩ (X12 _ _ (X11 _ _ e10))
  · rintro σ h ⟨hr, e0, y1, y2, y3, y4, y5, y6, y7, y8, y9, y10, y11, rfl⟩
    refine ⟨trivial, ?_⟩
    refine wSs_step ?_; simp_arith []
    exact kf _
end Law

namespace Law
open PySem L2 Z
section
variable {P : Program} {w : World} {K : PySem.W.Frag} {mg : Str → Option Value} {base : Heap}
structure Txt (K : PySem.W.Frag) (mg : Str → Option Value) : Prop where
  bl : ∀ n ∈ blts, mg n = none
  cn : ∀ p ∈ cs, ∃ (u : Value) (t : V), mg p.1 = some u ∧ RelV t u ∧ ∀ (ρ : List Addr) (H : Hp), Rep K ρ H p.2 t
theorem fn_is_whole {f : Addr} {fd : FuncData} (T : Txt K mg) (F : Fun K "is_whole" "is_whole" s_is_whole f fd) (hm : mg "is_whole" = some (.ref f)) (kp : PySem.W.keepIn K (.ref f) = true) (b : Binds K fd ["thing"] []) : FnR P w K mg base 1 "is_whole" sp_is_whole :=
  fnr_of hm kp (def_ok F sc_is_whole lk_is_whole T.bl (fun i g e => by
    match i, e with
    | i + 0, e => cases e) T.cn mt_is_whole) b
theorem fn_is_among {f : Addr} {fd : FuncData} (T : Txt K mg) (F : Fun K "is_among" "is_among" s_is_among f fd) (hm : mg "is_among" = some (.ref f)) (kp : PySem.W.keepIn K (.ref f) = true) (b : Binds K fd ["thing", "least", "most"] []) (h0 : FnR P w K mg base 1 "is_whole" sp_is_whole) : FnR P w K mg base 2 "is_among" sp_is_among :=
  fnr_of hm kp (def_ok F sc_is_among lk_is_among T.bl (fun i g e => by
    match i, e with
    | 0, e => cases e; exact ⟨_, rfl, h0⟩
    | i + 1, e => cases e) T.cn mt_is_among) b
theorem fn_is_pair {f : Addr} {fd : FuncData} (T : Txt K mg) (F : Fun K "is_pair" "is_pair" s_is_pair f fd) (hm : mg "is_pair" = some (.ref f)) (kp : PySem.W.keepIn K (.ref f) = true) (b : Binds K fd ["thing"] []) (h0 : FnR P w K mg base 2 "is_among" sp_is_among) : FnR P w K mg base 3 "is_pair" sp_is_pair :=
  fnr_of hm kp (def_ok F sc_is_pair lk_is_pair T.bl (fun i g e => by
    match i, e with
    | 0, e => cases e; exact ⟨_, rfl, h0⟩
    | i + 1, e => cases e) T.cn mt_is_pair) b
theorem fn_need_pairs {f : Addr} {fd : FuncData} (T : Txt K mg) (F : Fun K "need_pairs" "need_pairs" s_need_pairs f fd) (hm : mg "need_pairs" = some (.ref f)) (kp : PySem.W.keepIn K (.ref f) = true) (b : Binds K fd ["rows"] []) (h0 : FnR P w K mg base 3 "is_pair" sp_is_pair) (h1 : ErR K mg "BadRows") : FnR P w K mg base 4 "need_pairs" sp_need_pairs :=
  fnr_of hm kp (def_ok F sc_need_pairs lk_need_pairs T.bl (fun i g e => by
    match i, e with
    | 0, e => cases e; exact ⟨_, rfl, h0⟩
    | 1, e => cases e; exact ⟨_, rfl, h1⟩
    | i + 2, e => cases e) T.cn mt_need_pairs) b
theorem fn_is_order {f : Addr} {fd : FuncData} (T : Txt K mg) (F : Fun K "is_order" "is_order" s_is_order f fd) (hm : mg "is_order" = some (.ref f)) (kp : PySem.W.keepIn K (.ref f) = true) (b : Binds K fd ["thing", "many"] []) (h0 : FnR P w K mg base 2 "is_among" sp_is_among) : FnR P w K mg base 3 "is_order" sp_is_order :=
  fnr_of hm kp (def_ok F sc_is_order lk_is_order T.bl (fun i g e => by
    match i, e with
    | 0, e => cases e; exact ⟨_, rfl, h0⟩
    | i + 1, e => cases e) T.cn mt_is_order) b
theorem fn_front_rows {f : Addr} {fd : FuncData} (T : Txt K mg) (F : Fun K "front_rows" "front_rows" s_front_rows f fd) (hm : mg "front_rows" = some (.ref f)) (kp : PySem.W.keepIn K (.ref f) = true) (b : Binds K fd ["rows"] []) : FnR P w K mg base 1 "front_rows" sp_front_rows :=
  fnr_of hm kp (def_ok F sc_front_rows lk_front_rows T.bl (fun i g e => by
    match i, e with
    | i + 0, e => cases e) T.cn mt_front_rows) b
theorem fn_back_rows {f : Addr} {fd : FuncData} (T : Txt K mg) (F : Fun K "back_rows" "back_rows" s_back_rows f fd) (hm : mg "back_rows" = some (.ref f)) (kp : PySem.W.keepIn K (.ref f) = true) (b : Binds K fd ["rows"] []) : FnR P w K mg base 1 "back_rows" sp_back_rows :=
  fnr_of hm kp (def_ok F sc_back_rows lk_back_rows T.bl (fun i g e => by
    match i, e with
    | i + 0, e => cases e) T.cn mt_back_rows) b
theorem fn_turn_of {f : Addr} {fd : FuncData} (T : Txt K mg) (F : Fun K "turn_of" "turn_of" s_turn_of f fd) (hm : mg "turn_of" = some (.ref f)) (kp : PySem.W.keepIn K (.ref f) = true) (b : Binds K fd ["rows", "order"] []) : FnR P w K mg base 1 "turn_of" sp_turn_of :=
  fnr_of hm kp (def_ok F sc_turn_of lk_turn_of T.bl (fun i g e => by
    match i, e with
    | i + 0, e => cases e) T.cn mt_turn_of) b
theorem fn_least_span {f : Addr} {fd : FuncData} (T : Txt K mg) (F : Fun K "least_span" "least_span" s_least_span f fd) (hm : mg "least_span" = some (.ref f)) (kp : PySem.W.keepIn K (.ref f) = true) (b : Binds K fd ["rows"] []) (h0 : FnR P w K mg base 4 "need_pairs" sp_need_pairs) (h1 : FnR P w K mg base 4 "front_rows" sp_front_rows) (h2 : FnR P w K mg base 4 "back_rows" sp_back_rows) (h3 : FnR P w K mg base 4 "turn_of" sp_turn_of) : FnR P w K mg base 5 "least_span" sp_least_span :=
  fnr_of hm kp (def_ok F sc_least_span lk_least_span T.bl (fun i g e => by
    match i, e with
    | 0, e => cases e; exact ⟨_, rfl, h0⟩
    | 1, e => cases e; exact ⟨_, rfl, h1⟩
    | 2, e => cases e; exact ⟨_, rfl, h2⟩
    | 3, e => cases e; exact ⟨_, rfl, h3⟩
    | i + 4, e => cases e) T.cn mt_least_span) b
theorem fn_is_set {f : Addr} {fd : FuncData} (T : Txt K mg) (F : Fun K "is_set" "is_set" s_is_set f fd) (hm : mg "is_set" = some (.ref f)) (kp : PySem.W.keepIn K (.ref f) = true) (b : Binds K fd ["thing", "many"] []) (h0 : FnR P w K mg base 2 "is_among" sp_is_among) : FnR P w K mg base 3 "is_set" sp_is_set :=
  fnr_of hm kp (def_ok F sc_is_set lk_is_set T.bl (fun i g e => by
    match i, e with
    | 0, e => cases e; exact ⟨_, rfl, h0⟩
    | i + 1, e => cases e) T.cn mt_is_set) b
theorem fn_set_bound {f : Addr} {fd : FuncData} (T : Txt K mg) (F : Fun K "set_bound" "set_bound" s_set_bound f fd) (hm : mg "set_bound" = some (.ref f)) (kp : PySem.W.keepIn K (.ref f) = true) (b : Binds K fd ["rows", "side", "some"] []) (h0 : FnR P w K mg base 4 "need_pairs" sp_need_pairs) (h1 : FnR P w K mg base 4 "is_set" sp_is_set) (h2 : ErR K mg "BadTasks") : FnR P w K mg base 5 "set_bound" sp_set_bound :=
  fnr_of hm kp (def_ok F sc_set_bound lk_set_bound T.bl (fun i g e => by
    match i, e with
    | 0, e => cases e; exact ⟨_, rfl, h0⟩
    | 1, e => cases e; exact ⟨_, rfl, h1⟩
    | 2, e => cases e; exact ⟨_, rfl, h2⟩
    | i + 3, e => cases e) T.cn mt_set_bound) b
theorem fn_span_of {f : Addr} {fd : FuncData} (T : Txt K mg) (F : Fun K "span_of" "span_of" s_span_of f fd) (hm : mg "span_of" = some (.ref f)) (kp : PySem.W.keepIn K (.ref f) = true) (b : Binds K fd ["rows", "one", "two"] []) (h0 : FnR P w K mg base 4 "need_pairs" sp_need_pairs) (h1 : FnR P w K mg base 4 "is_order" sp_is_order) (h2 : ErR K mg "BadTasks") : FnR P w K mg base 5 "span_of" sp_span_of :=
  fnr_of hm kp (def_ok F sc_span_of lk_span_of T.bl (fun i g e => by
    match i, e with
    | 0, e => cases e; exact ⟨_, rfl, h0⟩
    | 1, e => cases e; exact ⟨_, rfl, h1⟩
    | 2, e => cases e; exact ⟨_, rfl, h2⟩
    | i + 3, e => cases e) T.cn mt_span_of) b
theorem fn__law_mixed {f : Addr} {fd : FuncData} (T : Txt K mg) (F : Fun K "_law_mixed" "_law_mixed" s__law_mixed f fd) (hm : mg "_law_mixed" = some (.ref f)) (kp : PySem.W.keepIn K (.ref f) = true) (b : Binds K fd ["_law_cell", "_law_k"] []) : FnR P w K mg base 1 "_law_mixed" sp__law_mixed :=
  fnr_of hm kp (def_ok F sc__law_mixed lk__law_mixed T.bl (fun i g e => by
    match i, e with
    | i + 0, e => cases e) T.cn mt__law_mixed) b
theorem fn__law_draw {f : Addr} {fd : FuncData} (T : Txt K mg) (F : Fun K "_law_draw" "_law_draw" s__law_draw f fd) (hm : mg "_law_draw" = some (.ref f)) (kp : PySem.W.keepIn K (.ref f) = true) (b : Binds K fd ["_law_script", "_law_k"] []) : FnR P w K mg base 1 "_law_draw" sp__law_draw :=
  fnr_of hm kp (def_ok F sc__law_draw lk__law_draw T.bl (fun i g e => by
    match i, e with
    | i + 0, e => cases e) T.cn mt__law_draw) b
theorem fn__law_next {f : Addr} {fd : FuncData} (T : Txt K mg) (F : Fun K "_law_next" "_law_next" s__law_next f fd) (hm : mg "_law_next" = some (.ref f)) (kp : PySem.W.keepIn K (.ref f) = true) (b : Binds K fd ["_law_draw_here", "_law_many"] []) (h0 : FnR P w K mg base 1 "_law_mixed" sp__law_mixed) : FnR P w K mg base 2 "_law_next" sp__law_next :=
  fnr_of hm kp (def_ok F sc__law_next lk__law_next T.bl (fun i g e => by
    match i, e with
    | 0, e => cases e; exact ⟨_, rfl, h0⟩
    | i + 1, e => cases e) T.cn mt__law_next) b
theorem fn__law_rows {f : Addr} {fd : FuncData} (T : Txt K mg) (F : Fun K "_law_rows" "_law_rows" s__law_rows f fd) (hm : mg "_law_rows" = some (.ref f)) (kp : PySem.W.keepIn K (.ref f) = true) (b : Binds K fd ["_law_draw_here", "_law_most"] []) (h0 : FnR P w K mg base 2 "_law_next" sp__law_next) : FnR P w K mg base 3 "_law_rows" sp__law_rows :=
  fnr_of hm kp (def_ok F sc__law_rows lk__law_rows T.bl (fun i g e => by
    match i, e with
    | 0, e => cases e; exact ⟨_, rfl, h0⟩
    | i + 1, e => cases e) T.cn mt__law_rows) b
theorem fn__law_kind {f : Addr} {fd : FuncData} (T : Txt K mg) (F : Fun K "_law_kind" "_law_kind" s__law_kind f fd) (hm : mg "_law_kind" = some (.ref f)) (kp : PySem.W.keepIn K (.ref f) = true) (b : Binds K fd ["_law_error"] []) (h0 : XsR K mg ["BadRows", "BadTasks"] ["BadArcs", "BadBook", "BadDeed", "BadLine", "BadMost", "BadPaper", "BadPlan", "BadRows", "BadTasks", "BadText", "BadWorth", "NoDeed", "NoPlan", "ValueError"]) : FnR P w K mg base 1 "_law_kind" sp__law_kind :=
  fnr_of hm kp (def_ok F sc__law_kind lk__law_kind T.bl (fun i g e => by
    match i, e with
    | 0, e => cases e; exact ⟨_, rfl, h0⟩
    | i + 1, e => cases e) T.cn mt__law_kind) b
theorem fn__law_said {f : Addr} {oc kV doc pm cdv ct : Value} {od an : Option Addr} {osl : Array (Option Value)} (T : Txt K mg) (lk : K.lookup f = some ⟨oc, od, .func (PySem.W.fnOf "_law_said" "_law_said" (defArgs s__law_said) (defBody s__law_said) (defScope s__law_said) .none kV doc pm an cdv ct), osl⟩) (hcd : PySem.W.codeIn K cdv "_law_said" = true) (hm : mg "_law_said" = some (.ref f)) (kp : PySem.W.keepIn K (.ref f) = true) (b : Binds K (PySem.W.fnOf "_law_said" "_law_said" (defArgs s__law_said) (defBody s__law_said) (defScope s__law_said) .none kV doc pm an cdv ct) ["_law_asked"] []) (h1 : FnR P w K mg base 1 "_law_kind" sp__law_kind) (h2 : XsR K mg ["BadRows", "BadTasks"] ["PlanError"]) : SaR P w K mg base 1 "_law_said" sp__law_said :=
  sa_ok lk hcd hm kp b sc__law_said rfl (by decide +kernel) (by decide) (by decide) lk__law_said T.bl (fun i g e => by
    match i, e with
    | 0, e => cases e; exact ⟨_, rfl, h1⟩
    | 1, e => cases e; exact ⟨_, rfl, h2⟩
    | i + 2, e => cases e) T.cn mt__law_said
theorem fn__law_no_rows {f : Addr} {fd : FuncData} (T : Txt K mg) (F : Fun K "_law_no_rows" "_law_no_rows" s__law_no_rows f fd) (hm : mg "_law_no_rows" = some (.ref f)) (kp : PySem.W.keepIn K (.ref f) = true) (b : Binds K fd ["_law_rows_here", "_law_draw_here"] []) (h0 : FnR P w K mg base 2 "_law_next" sp__law_next) : FnR P w K mg base 3 "_law_no_rows" sp__law_no_rows :=
  fnr_of hm kp (def_ok F sc__law_no_rows lk__law_no_rows T.bl (fun i g e => by
    match i, e with
    | 0, e => cases e; exact ⟨_, rfl, h0⟩
    | i + 1, e => cases e) T.cn mt__law_no_rows) b
theorem fn__law_no_set {f : Addr} {fd : FuncData} (T : Txt K mg) (F : Fun K "_law_no_set" "_law_no_set" s__law_no_set f fd) (hm : mg "_law_no_set" = some (.ref f)) (kp : PySem.W.keepIn K (.ref f) = true) (b : Binds K fd ["_law_many", "_law_draw_here"] []) (h0 : FnR P w K mg base 2 "_law_next" sp__law_next) : FnR P w K mg base 3 "_law_no_set" sp__law_no_set :=
  fnr_of hm kp (def_ok F sc__law_no_set lk__law_no_set T.bl (fun i g e => by
    match i, e with
    | 0, e => cases e; exact ⟨_, rfl, h0⟩
    | i + 1, e => cases e) T.cn mt__law_no_set) b
theorem fn__law_no_order {f : Addr} {fd : FuncData} (T : Txt K mg) (F : Fun K "_law_no_order" "_law_no_order" s__law_no_order f fd) (hm : mg "_law_no_order" = some (.ref f)) (kp : PySem.W.keepIn K (.ref f) = true) (b : Binds K fd ["_law_many", "_law_draw_here"] []) (h0 : FnR P w K mg base 2 "_law_next" sp__law_next) : FnR P w K mg base 3 "_law_no_order" sp__law_no_order :=
  fnr_of hm kp (def_ok F sc__law_no_order lk__law_no_order T.bl (fun i g e => by
    match i, e with
    | 0, e => cases e; exact ⟨_, rfl, h0⟩
    | i + 1, e => cases e) T.cn mt__law_no_order) b
theorem ok_law {f c TA : Addr} {oc kV doc pm ct : Value} {od an : Option Addr} {osl : Array (Option Value)} (T : Txt K mg) (lk : K.lookup f = some ⟨oc, od, .func (PySem.W.fnOf "law" "law" (defArgs s_law) (defBody s_law) (defScope s_law) .none kV doc pm an (.ref c) ct), osl⟩) (hcd : PySem.W.codeIn K (.ref c) "law" = true) (TB : LamX.TabB base mg c TA) (sm : ∃ (o : Obj) (es : Array DictEntry) (ep : Nat), base.get? sysModules = some o ∧ o.data = .dict es ep) (h0 : FnR P w K mg base 5 "_law_rows" sp__law_rows) (h1 : FnR P w K mg base 5 "_law_draw" sp__law_draw) (h2 : FnR P w K mg base 5 "_law_no_rows" sp__law_no_rows) (h3 : FnR P w K mg base 5 "_law_no_set" sp__law_no_set) (h4 : FnR P w K mg base 5 "_law_no_order" sp__law_no_order) (h5 : FnR P w K mg base 5 "_law_next" sp__law_next) (h8 : FnR P w K mg base 5 "least_span" sp_least_span) (h9 : FnR P w K mg base 5 "set_bound" sp_set_bound) (h10 : FnR P w K mg base 5 "span_of" sp_span_of) (h11 : SaR P w K mg base 5 "_law_said" sp__law_said) : Zh.TopOk P w K mg base (L2.CX P w) f (PySem.W.fnOf "law" "law" (defArgs s_law) (defBody s_law) (defScope s_law) .none kV doc pm an (.ref c) ct) "_law_script" (lift K mg (spLawT TA (lamQ "law") 63)) :=
  def_topC (k := 5) lk hcd TB sm sc_law ⟨rfl, by decide, by decide⟩ lk_law T.bl (mt_law TA) (fun cl i g e => by
    match i, e with
    | 0, e => cases e; exact ⟨_, rfl, .inr (.inr (.inr h0))⟩
    | 1, e => cases e; exact ⟨_, rfl, .inr (.inr (.inr h1))⟩
    | 2, e => cases e; exact ⟨_, rfl, .inr (.inr (.inr h2))⟩
    | 3, e => cases e; exact ⟨_, rfl, .inr (.inr (.inr h3))⟩
    | 4, e => cases e; exact ⟨_, rfl, .inr (.inr (.inr h4))⟩
    | 5, e => cases e; exact ⟨_, rfl, .inr (.inr (.inr h5))⟩
    | 6, e => cases e; exact ⟨_, rfl, .inl ⟨rfl, rfl⟩⟩
    | 7, e => cases e; exact ⟨_, rfl, .inr (.inl ⟨rfl, rfl⟩)⟩
    | 8, e => cases e; exact ⟨_, rfl, .inr (.inr (.inr h8))⟩
    | 9, e => cases e; exact ⟨_, rfl, .inr (.inr (.inr h9))⟩
    | 10, e => cases e; exact ⟨_, rfl, .inr (.inr (.inr h10))⟩
    | 11, e => cases e; exact ⟨_, rfl, .inr (.inr (.inr h11))⟩
    | i + 12, e => cases e) T.cn
end
set_option maxHeartbeats 0 in
theorem all_mk {P : Program} {w : World} {K : PySem.W.Frag} {h : Heap} {mg : Str → Option Value} {fa f0 f1 f2 f3 f4 f5 f6 f7 f8 f9 f10 f11 f12 f13 f14 f15 f16 f17 f18 f19 f20 f21 : Addr} (X : K.In h) (G : h.Ns mainGlobals mg) (hfa : mg "law" = some (.ref fa))
    {od0 an0 od1 an1 od2 an2 od3 an3 od4 an4 od5 an5 od6 an6 od7 an7 od8 an8 od9 an9 od10 an10 od11 an11 od12 an12 od13 an13 od14 an14 od15 an15 od16 an16 od17 an17 od18 an18 od19 an19 od20 an20 od21 an21 : Option Addr} {sl0 sl1 sl2 sl3 sl4 sl5 sl6 sl7 sl8 sl9 sl10 sl11 sl12 sl13 sl14 sl15 sl16 sl17 sl18 sl19 sl20 sl21 : Array (Option Value)}
    {oc0 kV0 dc0 pm0 cd0 ct0 oc1 kV1 dc1 pm1 cd1 ct1 oc2 kV2 dc2 pm2 cd2 ct2 oc3 kV3 dc3 pm3 cd3 ct3 oc4 kV4 dc4 pm4 cd4 ct4 oc5 kV5 dc5 pm5 cd5 ct5 oc6 kV6 dc6 pm6 cd6 ct6 oc7 kV7 dc7 pm7 cd7 ct7 oc8 kV8 dc8 pm8 cd8 ct8 oc9 kV9 dc9 pm9 cd9 ct9 oc10 kV10 dc10 pm10 cd10 ct10 oc11 kV11 dc11 pm11 cd11 ct11 oc12 kV12 dc12 pm12 cd12 ct12 oc13 kV13 dc13 pm13 cd13 ct13 oc14 kV14 dc14 pm14 cd14 ct14 oc15 kV15 dc15 pm15 cd15 ct15 oc16 kV16 dc16 pm16 cd16 ct16 oc17 kV17 dc17 pm17 cd17 ct17 oc18 kV18 dc18 pm18 cd18 ct18 oc19 kV19 dc19 pm19 cd19 ct19 oc20 kV20 dc20 pm20 cd20 ct20 oc21 kV21 dc21 pm21 ct21 : Value}
    (a0 : PySem.W.nsIn K mainGlobals "is_whole" = some (some (.ref f0))) (l0 : K.lookup f0 = some ⟨oc0, od0, .func (PySem.W.fnOf "is_whole" "is_whole" (defArgs s_is_whole) (defBody s_is_whole) (defScope s_is_whole) .none kV0 dc0 pm0 an0 cd0 ct0), sl0⟩) (c0 : PySem.W.codeIn K cd0 "is_whole" = true) (k0 : PySem.W.keepIn K (.ref f0) = true)
    (a1 : PySem.W.nsIn K mainGlobals "is_among" = some (some (.ref f1))) (l1 : K.lookup f1 = some ⟨oc1, od1, .func (PySem.W.fnOf "is_among" "is_among" (defArgs s_is_among) (defBody s_is_among) (defScope s_is_among) .none kV1 dc1 pm1 an1 cd1 ct1), sl1⟩) (c1 : PySem.W.codeIn K cd1 "is_among" = true) (k1 : PySem.W.keepIn K (.ref f1) = true)
    (a2 : PySem.W.nsIn K mainGlobals "is_pair" = some (some (.ref f2))) (l2 : K.lookup f2 = some ⟨oc2, od2, .func (PySem.W.fnOf "is_pair" "is_pair" (defArgs s_is_pair) (defBody s_is_pair) (defScope s_is_pair) .none kV2 dc2 pm2 an2 cd2 ct2), sl2⟩) (c2 : PySem.W.codeIn K cd2 "is_pair" = true) (k2 : PySem.W.keepIn K (.ref f2) = true)
    (a3 : PySem.W.nsIn K mainGlobals "need_pairs" = some (some (.ref f3))) (l3 : K.lookup f3 = some ⟨oc3, od3, .func (PySem.W.fnOf "need_pairs" "need_pairs" (defArgs s_need_pairs) (defBody s_need_pairs) (defScope s_need_pairs) .none kV3 dc3 pm3 an3 cd3 ct3), sl3⟩) (c3 : PySem.W.codeIn K cd3 "need_pairs" = true) (k3 : PySem.W.keepIn K (.ref f3) = true)
    (a4 : PySem.W.nsIn K mainGlobals "is_order" = some (some (.ref f4))) (l4 : K.lookup f4 = some ⟨oc4, od4, .func (PySem.W.fnOf "is_order" "is_order" (defArgs s_is_order) (defBody s_is_order) (defScope s_is_order) .none kV4 dc4 pm4 an4 cd4 ct4), sl4⟩) (c4 : PySem.W.codeIn K cd4 "is_order" = true) (k4 : PySem.W.keepIn K (.ref f4) = true)
    (a5 : PySem.W.nsIn K mainGlobals "front_rows" = some (some (.ref f5))) (l5 : K.lookup f5 = some ⟨oc5, od5, .func (PySem.W.fnOf "front_rows" "front_rows" (defArgs s_front_rows) (defBody s_front_rows) (defScope s_front_rows) .none kV5 dc5 pm5 an5 cd5 ct5), sl5⟩) (c5 : PySem.W.codeIn K cd5 "front_rows" = true) (k5 : PySem.W.keepIn K (.ref f5) = true)
    (a6 : PySem.W.nsIn K mainGlobals "back_rows" = some (some (.ref f6))) (l6 : K.lookup f6 = some ⟨oc6, od6, .func (PySem.W.fnOf "back_rows" "back_rows" (defArgs s_back_rows) (defBody s_back_rows) (defScope s_back_rows) .none kV6 dc6 pm6 an6 cd6 ct6), sl6⟩) (c6 : PySem.W.codeIn K cd6 "back_rows" = true) (k6 : PySem.W.keepIn K (.ref f6) = true)
    (a7 : PySem.W.nsIn K mainGlobals "turn_of" = some (some (.ref f7))) (l7 : K.lookup f7 = some ⟨oc7, od7, .func (PySem.W.fnOf "turn_of" "turn_of" (defArgs s_turn_of) (defBody s_turn_of) (defScope s_turn_of) .none kV7 dc7 pm7 an7 cd7 ct7), sl7⟩) (c7 : PySem.W.codeIn K cd7 "turn_of" = true) (k7 : PySem.W.keepIn K (.ref f7) = true)
    (a8 : PySem.W.nsIn K mainGlobals "least_span" = some (some (.ref f8))) (l8 : K.lookup f8 = some ⟨oc8, od8, .func (PySem.W.fnOf "least_span" "least_span" (defArgs s_least_span) (defBody s_least_span) (defScope s_least_span) .none kV8 dc8 pm8 an8 cd8 ct8), sl8⟩) (c8 : PySem.W.codeIn K cd8 "least_span" = true) (k8 : PySem.W.keepIn K (.ref f8) = true)
    (a9 : PySem.W.nsIn K mainGlobals "is_set" = some (some (.ref f9))) (l9 : K.lookup f9 = some ⟨oc9, od9, .func (PySem.W.fnOf "is_set" "is_set" (defArgs s_is_set) (defBody s_is_set) (defScope s_is_set) .none kV9 dc9 pm9 an9 cd9 ct9), sl9⟩) (c9 : PySem.W.codeIn K cd9 "is_set" = true) (k9 : PySem.W.keepIn K (.ref f9) = true)
    (a10 : PySem.W.nsIn K mainGlobals "set_bound" = some (some (.ref f10))) (l10 : K.lookup f10 = some ⟨oc10, od10, .func (PySem.W.fnOf "set_bound" "set_bound" (defArgs s_set_bound) (defBody s_set_bound) (defScope s_set_bound) .none kV10 dc10 pm10 an10 cd10 ct10), sl10⟩) (c10 : PySem.W.codeIn K cd10 "set_bound" = true) (k10 : PySem.W.keepIn K (.ref f10) = true)
    (a11 : PySem.W.nsIn K mainGlobals "span_of" = some (some (.ref f11))) (l11 : K.lookup f11 = some ⟨oc11, od11, .func (PySem.W.fnOf "span_of" "span_of" (defArgs s_span_of) (defBody s_span_of) (defScope s_span_of) .none kV11 dc11 pm11 an11 cd11 ct11), sl11⟩) (c11 : PySem.W.codeIn K cd11 "span_of" = true) (k11 : PySem.W.keepIn K (.ref f11) = true)
    (a12 : PySem.W.nsIn K mainGlobals "_law_mixed" = some (some (.ref f12))) (l12 : K.lookup f12 = some ⟨oc12, od12, .func (PySem.W.fnOf "_law_mixed" "_law_mixed" (defArgs s__law_mixed) (defBody s__law_mixed) (defScope s__law_mixed) .none kV12 dc12 pm12 an12 cd12 ct12), sl12⟩) (c12 : PySem.W.codeIn K cd12 "_law_mixed" = true) (k12 : PySem.W.keepIn K (.ref f12) = true)
    (a13 : PySem.W.nsIn K mainGlobals "_law_draw" = some (some (.ref f13))) (l13 : K.lookup f13 = some ⟨oc13, od13, .func (PySem.W.fnOf "_law_draw" "_law_draw" (defArgs s__law_draw) (defBody s__law_draw) (defScope s__law_draw) .none kV13 dc13 pm13 an13 cd13 ct13), sl13⟩) (c13 : PySem.W.codeIn K cd13 "_law_draw" = true) (k13 : PySem.W.keepIn K (.ref f13) = true)
    (a14 : PySem.W.nsIn K mainGlobals "_law_next" = some (some (.ref f14))) (l14 : K.lookup f14 = some ⟨oc14, od14, .func (PySem.W.fnOf "_law_next" "_law_next" (defArgs s__law_next) (defBody s__law_next) (defScope s__law_next) .none kV14 dc14 pm14 an14 cd14 ct14), sl14⟩) (c14 : PySem.W.codeIn K cd14 "_law_next" = true) (k14 : PySem.W.keepIn K (.ref f14) = true)
    (a15 : PySem.W.nsIn K mainGlobals "_law_rows" = some (some (.ref f15))) (l15 : K.lookup f15 = some ⟨oc15, od15, .func (PySem.W.fnOf "_law_rows" "_law_rows" (defArgs s__law_rows) (defBody s__law_rows) (defScope s__law_rows) .none kV15 dc15 pm15 an15 cd15 ct15), sl15⟩) (c15 : PySem.W.codeIn K cd15 "_law_rows" = true) (k15 : PySem.W.keepIn K (.ref f15) = true)
    (a16 : PySem.W.nsIn K mainGlobals "_law_kind" = some (some (.ref f16))) (l16 : K.lookup f16 = some ⟨oc16, od16, .func (PySem.W.fnOf "_law_kind" "_law_kind" (defArgs s__law_kind) (defBody s__law_kind) (defScope s__law_kind) .none kV16 dc16 pm16 an16 cd16 ct16), sl16⟩) (c16 : PySem.W.codeIn K cd16 "_law_kind" = true) (k16 : PySem.W.keepIn K (.ref f16) = true)
    (a17 : PySem.W.nsIn K mainGlobals "_law_said" = some (some (.ref f17))) (l17 : K.lookup f17 = some ⟨oc17, od17, .func (PySem.W.fnOf "_law_said" "_law_said" (defArgs s__law_said) (defBody s__law_said) (defScope s__law_said) .none kV17 dc17 pm17 an17 cd17 ct17), sl17⟩) (c17 : PySem.W.codeIn K cd17 "_law_said" = true) (k17 : PySem.W.keepIn K (.ref f17) = true)
    (a18 : PySem.W.nsIn K mainGlobals "_law_no_rows" = some (some (.ref f18))) (l18 : K.lookup f18 = some ⟨oc18, od18, .func (PySem.W.fnOf "_law_no_rows" "_law_no_rows" (defArgs s__law_no_rows) (defBody s__law_no_rows) (defScope s__law_no_rows) .none kV18 dc18 pm18 an18 cd18 ct18), sl18⟩) (c18 : PySem.W.codeIn K cd18 "_law_no_rows" = true) (k18 : PySem.W.keepIn K (.ref f18) = true)
    (a19 : PySem.W.nsIn K mainGlobals "_law_no_set" = some (some (.ref f19))) (l19 : K.lookup f19 = some ⟨oc19, od19, .func (PySem.W.fnOf "_law_no_set" "_law_no_set" (defArgs s__law_no_set) (defBody s__law_no_set) (defScope s__law_no_set) .none kV19 dc19 pm19 an19 cd19 ct19), sl19⟩) (c19 : PySem.W.codeIn K cd19 "_law_no_set" = true) (k19 : PySem.W.keepIn K (.ref f19) = true)
    (a20 : PySem.W.nsIn K mainGlobals "_law_no_order" = some (some (.ref f20))) (l20 : K.lookup f20 = some ⟨oc20, od20, .func (PySem.W.fnOf "_law_no_order" "_law_no_order" (defArgs s__law_no_order) (defBody s__law_no_order) (defScope s__law_no_order) .none kV20 dc20 pm20 an20 cd20 ct20), sl20⟩) (c20 : PySem.W.codeIn K cd20 "_law_no_order" = true) (k20 : PySem.W.keepIn K (.ref f20) = true)
    {cT TA : Addr} {ocT : Value} {odT : Option Addr} {vsT : Array Value} {slT : Array (Option Value)} (a21 : PySem.W.nsIn K mainGlobals "law" = some (some (.ref f21))) (l21 : K.lookup f21 = some ⟨oc21, od21, .func (PySem.W.fnOf "law" "law" (defArgs s_law) (defBody s_law) (defScope s_law) .none kV21 dc21 pm21 an21 (.ref cT) ct21), sl21⟩) (c21 : PySem.W.codeIn K (.ref cT) "law" = true)
    (lt : K.lookup cT = some ⟨ocT, odT, .fields vsT, slT⟩) (vt : vsT[11]? = some (.ref TA)) (nt : K.lookup TA = none) (ht : PySem.W.codeHdIn K cT TA = true) (tb : h.get? TA = some { cls := .none, data := .fields #[] })
    (z0 : PySem.W.nsIn K mainGlobals "len" = some none)
    (z1 : PySem.W.nsIn K mainGlobals "max" = some none)
    (z2 : PySem.W.nsIn K mainGlobals "min" = some none)
    (z3 : PySem.W.nsIn K mainGlobals "sum" = some none)
    (z4 : PySem.W.nsIn K mainGlobals "all" = some none)
    (z5 : PySem.W.nsIn K mainGlobals "any" = some none)
    (z6 : PySem.W.nsIn K mainGlobals "list" = some none)
    (z7 : PySem.W.nsIn K mainGlobals "tuple" = some none)
    (z8 : PySem.W.nsIn K mainGlobals "int" = some none)
    (z9 : PySem.W.nsIn K mainGlobals "isinstance" = some none)
    (z10 : PySem.W.nsIn K mainGlobals "range" = some none)
    (z11 : PySem.W.nsIn K mainGlobals "enumerate" = some none)
    (z12 : PySem.W.nsIn K mainGlobals "zip" = some none)
    (z13 : PySem.W.nsIn K mainGlobals "set" = some none)
    (z14 : PySem.W.nsIn K mainGlobals "bool" = some none)
    (z15 : PySem.W.nsIn K mainGlobals "str" = some none)
    (z16 : PySem.W.nsIn K mainGlobals "dict" = some none)
    (z17 : PySem.W.nsIn K mainGlobals "sorted" = some none)
    (z18 : PySem.W.nsIn K mainGlobals "repr" = some none)
    (z19 : PySem.W.nsIn K mainGlobals "reversed" = some none)
    (z20 : PySem.W.nsIn K mainGlobals "abs" = some none)
    (z21 : PySem.W.nsIn K mainGlobals "divmod" = some none)
    {tk0 : Tok} (q0 : PySem.W.nsIn K mainGlobals "MOST_ROWS" = some (some (.int 30 tk0)))
    {tk1 : Tok} (q1 : PySem.W.nsIn K mainGlobals "MOST_LENGTH" = some (some (.int 1000 tk1)))
    {tk2 : Tok} (q2 : PySem.W.nsIn K mainGlobals "FRONT" = some (some (.str "front" tk2)))
    {tk3 : Tok} (q3 : PySem.W.nsIn K mainGlobals "BACK" = some (some (.str "back" tk3)))
    {C0 C1 C2 C3 C4 C5 C6 C7 C8 C9 C10 C11 C12 C13 : Addr}
    (ea0 : PySem.W.nsIn K mainGlobals "BadArcs" = some (some (.ref C0)))
    (ea1 : PySem.W.nsIn K mainGlobals "BadBook" = some (some (.ref C1)))
    (ea2 : PySem.W.nsIn K mainGlobals "BadDeed" = some (some (.ref C2)))
    (ea3 : PySem.W.nsIn K mainGlobals "BadLine" = some (some (.ref C3)))
    (ea4 : PySem.W.nsIn K mainGlobals "BadMost" = some (some (.ref C4)))
    (ea5 : PySem.W.nsIn K mainGlobals "BadPaper" = some (some (.ref C5)))
    (ea6 : PySem.W.nsIn K mainGlobals "BadPlan" = some (some (.ref C6)))
    (ea7 : PySem.W.nsIn K mainGlobals "BadRows" = some (some (.ref C7)))
    (ea8 : PySem.W.nsIn K mainGlobals "BadTasks" = some (some (.ref C8)))
    (ea9 : PySem.W.nsIn K mainGlobals "BadText" = some (some (.ref C9)))
    (ea10 : PySem.W.nsIn K mainGlobals "BadWorth" = some (some (.ref C10)))
    (ea11 : PySem.W.nsIn K mainGlobals "NoDeed" = some (some (.ref C11)))
    (ea12 : PySem.W.nsIn K mainGlobals "NoPlan" = some (some (.ref C12)))
    (ea13 : PySem.W.nsIn K mainGlobals "PlanError" = some (some (.ref C13)))
    (eb7 : PySem.W.excIn K C7 PySem.HandSPX.veTail "ValueError.__new__" = true) (ec7 : PySem.W.keepIn K (.ref C7) = true) (ed7 : PySem.W.subIn K (.ref C7) (.type "BaseException") = some true) (ee7 : PySem.W.typeIn K (.ref C7) = some (.type "type"))
    (eb8 : PySem.W.excIn K C8 PySem.HandSPX.veTail "ValueError.__new__" = true) (ec8 : PySem.W.keepIn K (.ref C8) = true) (ed8 : PySem.W.subIn K (.ref C8) (.type "BaseException") = some true) (ee8 : PySem.W.typeIn K (.ref C8) = some (.type "type"))
    (ew7 : L2.ExcC K C7)
    (ew8 : L2.ExcC K C8)
    (ev : PySem.W.nsIn K mainGlobals "ValueError" = some none)
    (eh0 : PySem.W.hasDictIn K C0 = true) (ej0 : PySem.W.subIn K (.ref C0) (.type "BaseException") = some true) (ez0 : PySem.W.typeIn K (.ref C0) = some (.type "type"))
    (eh1 : PySem.W.hasDictIn K C1 = true) (ej1 : PySem.W.subIn K (.ref C1) (.type "BaseException") = some true) (ez1 : PySem.W.typeIn K (.ref C1) = some (.type "type"))
    (eh2 : PySem.W.hasDictIn K C2 = true) (ej2 : PySem.W.subIn K (.ref C2) (.type "BaseException") = some true) (ez2 : PySem.W.typeIn K (.ref C2) = some (.type "type"))
    (eh3 : PySem.W.hasDictIn K C3 = true) (ej3 : PySem.W.subIn K (.ref C3) (.type "BaseException") = some true) (ez3 : PySem.W.typeIn K (.ref C3) = some (.type "type"))
    (eh4 : PySem.W.hasDictIn K C4 = true) (ej4 : PySem.W.subIn K (.ref C4) (.type "BaseException") = some true) (ez4 : PySem.W.typeIn K (.ref C4) = some (.type "type"))
    (eh5 : PySem.W.hasDictIn K C5 = true) (ej5 : PySem.W.subIn K (.ref C5) (.type "BaseException") = some true) (ez5 : PySem.W.typeIn K (.ref C5) = some (.type "type"))
    (eh6 : PySem.W.hasDictIn K C6 = true) (ej6 : PySem.W.subIn K (.ref C6) (.type "BaseException") = some true) (ez6 : PySem.W.typeIn K (.ref C6) = some (.type "type"))
    (eh7 : PySem.W.hasDictIn K C7 = true) (ej7 : PySem.W.subIn K (.ref C7) (.type "BaseException") = some true) (ez7 : PySem.W.typeIn K (.ref C7) = some (.type "type"))
    (eh8 : PySem.W.hasDictIn K C8 = true) (ej8 : PySem.W.subIn K (.ref C8) (.type "BaseException") = some true) (ez8 : PySem.W.typeIn K (.ref C8) = some (.type "type"))
    (eh9 : PySem.W.hasDictIn K C9 = true) (ej9 : PySem.W.subIn K (.ref C9) (.type "BaseException") = some true) (ez9 : PySem.W.typeIn K (.ref C9) = some (.type "type"))
    (eh10 : PySem.W.hasDictIn K C10 = true) (ej10 : PySem.W.subIn K (.ref C10) (.type "BaseException") = some true) (ez10 : PySem.W.typeIn K (.ref C10) = some (.type "type"))
    (eh11 : PySem.W.hasDictIn K C11 = true) (ej11 : PySem.W.subIn K (.ref C11) (.type "BaseException") = some true) (ez11 : PySem.W.typeIn K (.ref C11) = some (.type "type"))
    (eh12 : PySem.W.hasDictIn K C12 = true) (ej12 : PySem.W.subIn K (.ref C12) (.type "BaseException") = some true) (ez12 : PySem.W.typeIn K (.ref C12) = some (.type "type"))
    (eh13 : PySem.W.hasDictIn K C13 = true) (ej13 : PySem.W.subIn K (.ref C13) (.type "BaseException") = some true) (ez13 : PySem.W.typeIn K (.ref C13) = some (.type "type"))
    (eu : PySem.W.subIn K (.type "ValueError") (.type "BaseException") = some true)
    (em0 : PySem.W.subIn K (.ref C7) (.ref C0) = some false)
    (eq0 : C7 ≠ C0)
    (em1 : PySem.W.subIn K (.ref C7) (.ref C1) = some false)
    (eq1 : C7 ≠ C1)
    (em2 : PySem.W.subIn K (.ref C7) (.ref C2) = some false)
    (eq2 : C7 ≠ C2)
    (em3 : PySem.W.subIn K (.ref C7) (.ref C3) = some false)
    (eq3 : C7 ≠ C3)
    (em4 : PySem.W.subIn K (.ref C7) (.ref C4) = some false)
    (eq4 : C7 ≠ C4)
    (em5 : PySem.W.subIn K (.ref C7) (.ref C5) = some false)
    (eq5 : C7 ≠ C5)
    (em6 : PySem.W.subIn K (.ref C7) (.ref C6) = some false)
    (eq6 : C7 ≠ C6)
    (em7 : PySem.W.subIn K (.ref C7) (.ref C7) = some true)
    (em8 : PySem.W.subIn K (.ref C7) (.ref C8) = some false)
    (eq8 : C7 ≠ C8)
    (em9 : PySem.W.subIn K (.ref C7) (.ref C9) = some false)
    (eq9 : C7 ≠ C9)
    (em10 : PySem.W.subIn K (.ref C7) (.ref C10) = some false)
    (eq10 : C7 ≠ C10)
    (em11 : PySem.W.subIn K (.ref C7) (.ref C11) = some false)
    (eq11 : C7 ≠ C11)
    (em12 : PySem.W.subIn K (.ref C7) (.ref C12) = some false)
    (eq12 : C7 ≠ C12)
    (em13 : PySem.W.subIn K (.ref C7) (.ref C13) = some true)
    (em14 : PySem.W.subIn K (.ref C7) (.type "ValueError") = some true)
    (em15 : PySem.W.subIn K (.ref C8) (.ref C0) = some false)
    (eq15 : C8 ≠ C0)
    (em16 : PySem.W.subIn K (.ref C8) (.ref C1) = some false)
    (eq16 : C8 ≠ C1)
    (em17 : PySem.W.subIn K (.ref C8) (.ref C2) = some false)
    (eq17 : C8 ≠ C2)
    (em18 : PySem.W.subIn K (.ref C8) (.ref C3) = some false)
    (eq18 : C8 ≠ C3)
    (em19 : PySem.W.subIn K (.ref C8) (.ref C4) = some false)
    (eq19 : C8 ≠ C4)
    (em20 : PySem.W.subIn K (.ref C8) (.ref C5) = some false)
    (eq20 : C8 ≠ C5)
    (em21 : PySem.W.subIn K (.ref C8) (.ref C6) = some false)
    (eq21 : C8 ≠ C6)
    (em22 : PySem.W.subIn K (.ref C8) (.ref C7) = some false)
    (eq22 : C8 ≠ C7)
    (em23 : PySem.W.subIn K (.ref C8) (.ref C8) = some true)
    (em24 : PySem.W.subIn K (.ref C8) (.ref C9) = some false)
    (eq24 : C8 ≠ C9)
    (em25 : PySem.W.subIn K (.ref C8) (.ref C10) = some false)
    (eq25 : C8 ≠ C10)
    (em26 : PySem.W.subIn K (.ref C8) (.ref C11) = some false)
    (eq26 : C8 ≠ C11)
    (em27 : PySem.W.subIn K (.ref C8) (.ref C12) = some false)
    (eq27 : C8 ≠ C12)
    (em28 : PySem.W.subIn K (.ref C8) (.ref C13) = some true)
    (em29 : PySem.W.subIn K (.ref C8) (.type "ValueError") = some true)
    : ∃ (fd : FuncData) (c T : Addr) (sp : Sp), h.get? T = some { cls := .none, data := .fields #[] } ∧ K.lookup T = none ∧ PySem.W.CodeHd h c T ∧ (∀ (s : Shared) (u : Value), BindsTo s fd ⟨[u], []⟩ [("_law_script", u)]) ∧ (∀ (H : Hp) (a : Addr) (ns : List Int), ns.length ≤ 63 → Zh.OnlyT H T → SqL K H a (ns.map V.int) → sp [.ref a] H (fun v _ => v = .bl true) fun _ _ _ => False) ∧ ∀ base : Heap, K.In base → base.Ns mainGlobals mg → LamX.TabB base mg c T → (∃ (o : Obj) (es : Array DictEntry) (ep : Nat), base.get? sysModules = some o ∧ o.data = .dict es ep) → Zh.TopOk P w K mg base (L2.CX P w) fa fd "_law_script" sp := by
  have e := hfa.symm.trans (PySem.W.mg_of X G a21)
  cases e
  have T : Txt K mg := ⟨fun n hn => by
    simp only [blts, List.mem_cons, List.not_mem_nil, or_false] at hn
    rcases hn with rfl | rfl | rfl | rfl | rfl | rfl | rfl | rfl | rfl | rfl | rfl | rfl | rfl | rfl | rfl | rfl | rfl | rfl | rfl | rfl | rfl | rfl
    · exact PySem.W.mg_none_of X G z0
    · exact PySem.W.mg_none_of X G z1
    · exact PySem.W.mg_none_of X G z2
    · exact PySem.W.mg_none_of X G z3
    · exact PySem.W.mg_none_of X G z4
    · exact PySem.W.mg_none_of X G z5
    · exact PySem.W.mg_none_of X G z6
    · exact PySem.W.mg_none_of X G z7
    · exact PySem.W.mg_none_of X G z8
    · exact PySem.W.mg_none_of X G z9
    · exact PySem.W.mg_none_of X G z10
    · exact PySem.W.mg_none_of X G z11
    · exact PySem.W.mg_none_of X G z12
    · exact PySem.W.mg_none_of X G z13
    · exact PySem.W.mg_none_of X G z14
    · exact PySem.W.mg_none_of X G z15
    · exact PySem.W.mg_none_of X G z16
    · exact PySem.W.mg_none_of X G z17
    · exact PySem.W.mg_none_of X G z18
    · exact PySem.W.mg_none_of X G z19
    · exact PySem.W.mg_none_of X G z20
    · exact PySem.W.mg_none_of X G z21, fun p hp => by
    simp only [cs, List.mem_cons, List.not_mem_nil, or_false] at hp
    rcases hp with rfl | rfl | rfl | rfl
    · exact ⟨_, .int 30, PySem.W.mg_of X G q0, ⟨_, rfl⟩, fun _ _ => rfl⟩
    · exact ⟨_, .int 1000, PySem.W.mg_of X G q1, ⟨_, rfl⟩, fun _ _ => rfl⟩
    · exact ⟨_, .str "front", PySem.W.mg_of X G q2, ⟨_, rfl⟩, fun _ _ => rfl⟩
    · exact ⟨_, .str "back", PySem.W.mg_of X G q3, ⟨_, rfl⟩, fun _ _ => rfl⟩⟩
  have F0 := fun_mk (st := s_is_whole) l0 c0 k0
  have b0 := F0.binds (ps := ["thing"]) fun _ _ _ _ _ _ us hl => us1 hl fun _ => rfl
  have F1 := fun_mk (st := s_is_among) l1 c1 k1
  have b1 := F1.binds (ps := ["thing", "least", "most"]) fun _ _ _ _ _ _ us hl => us3 hl fun _ _ _ => rfl
  have F2 := fun_mk (st := s_is_pair) l2 c2 k2
  have b2 := F2.binds (ps := ["thing"]) fun _ _ _ _ _ _ us hl => us1 hl fun _ => rfl
  have F3 := fun_mk (st := s_need_pairs) l3 c3 k3
  have b3 := F3.binds (ps := ["rows"]) fun _ _ _ _ _ _ us hl => us1 hl fun _ => rfl
  have F4 := fun_mk (st := s_is_order) l4 c4 k4
  have b4 := F4.binds (ps := ["thing", "many"]) fun _ _ _ _ _ _ us hl => us2 hl fun _ _ => rfl
  have F5 := fun_mk (st := s_front_rows) l5 c5 k5
  have b5 := F5.binds (ps := ["rows"]) fun _ _ _ _ _ _ us hl => us1 hl fun _ => rfl
  have F6 := fun_mk (st := s_back_rows) l6 c6 k6
  have b6 := F6.binds (ps := ["rows"]) fun _ _ _ _ _ _ us hl => us1 hl fun _ => rfl
  have F7 := fun_mk (st := s_turn_of) l7 c7 k7
  have b7 := F7.binds (ps := ["rows", "order"]) fun _ _ _ _ _ _ us hl => us2 hl fun _ _ => rfl
  have F8 := fun_mk (st := s_least_span) l8 c8 k8
  have b8 := F8.binds (ps := ["rows"]) fun _ _ _ _ _ _ us hl => us1 hl fun _ => rfl
  have F9 := fun_mk (st := s_is_set) l9 c9 k9
  have b9 := F9.binds (ps := ["thing", "many"]) fun _ _ _ _ _ _ us hl => us2 hl fun _ _ => rfl
  have F10 := fun_mk (st := s_set_bound) l10 c10 k10
  have b10 := F10.binds (ps := ["rows", "side", "some"]) fun _ _ _ _ _ _ us hl => us3 hl fun _ _ _ => rfl
  have F11 := fun_mk (st := s_span_of) l11 c11 k11
  have b11 := F11.binds (ps := ["rows", "one", "two"]) fun _ _ _ _ _ _ us hl => us3 hl fun _ _ _ => rfl
  have F12 := fun_mk (st := s__law_mixed) l12 c12 k12
  have b12 := F12.binds (ps := ["_law_cell", "_law_k"]) fun _ _ _ _ _ _ us hl => us2 hl fun _ _ => rfl
  have F13 := fun_mk (st := s__law_draw) l13 c13 k13
  have b13 := F13.binds (ps := ["_law_script", "_law_k"]) fun _ _ _ _ _ _ us hl => us2 hl fun _ _ => rfl
  have F14 := fun_mk (st := s__law_next) l14 c14 k14
  have b14 := F14.binds (ps := ["_law_draw_here", "_law_many"]) fun _ _ _ _ _ _ us hl => us2 hl fun _ _ => rfl
  have F15 := fun_mk (st := s__law_rows) l15 c15 k15
  have b15 := F15.binds (ps := ["_law_draw_here", "_law_most"]) fun _ _ _ _ _ _ us hl => us2 hl fun _ _ => rfl
  have F16 := fun_mk (st := s__law_kind) l16 c16 k16
  have b16 := F16.binds (ps := ["_law_error"]) fun _ _ _ _ _ _ us hl => us1 hl fun _ => rfl
  have F17 := fun_mk (st := s__law_said) l17 c17 k17
  have b17 := F17.binds (ps := ["_law_asked"]) fun _ _ _ _ _ _ us hl => us1 hl fun _ => rfl
  have F18 := fun_mk (st := s__law_no_rows) l18 c18 k18
  have b18 := F18.binds (ps := ["_law_rows_here", "_law_draw_here"]) fun _ _ _ _ _ _ us hl => us2 hl fun _ _ => rfl
  have F19 := fun_mk (st := s__law_no_set) l19 c19 k19
  have b19 := F19.binds (ps := ["_law_many", "_law_draw_here"]) fun _ _ _ _ _ _ us hl => us2 hl fun _ _ => rfl
  have F20 := fun_mk (st := s__law_no_order) l20 c20 k20
  have b20 := F20.binds (ps := ["_law_many", "_law_draw_here"]) fun _ _ _ _ _ _ us hl => us2 hl fun _ _ => rfl
  refine ⟨PySem.W.fnOf "law" "law" (defArgs s_law) (defBody s_law) (defScope s_law) .none kV21 dc21 pm21 an21 (.ref cT) ct21, cT, TA, lift K mg (spLawT TA (lamQ "law") 63), tb, nt, PySem.W.codeHd_of_K X ht, fun s u => .of_eq rfl, fun H a ns hl ho hs => law_headT H TA _ a ns hl ho hs, fun base _ _ TB sm => ?_⟩
  have g0 : FnR P w K mg base 1 "is_whole" sp_is_whole := fn_is_whole T F0 (PySem.W.mg_of X G a0) k0 b0
  have g5 : FnR P w K mg base 1 "front_rows" sp_front_rows := fn_front_rows T F5 (PySem.W.mg_of X G a5) k5 b5
  have g6 : FnR P w K mg base 1 "back_rows" sp_back_rows := fn_back_rows T F6 (PySem.W.mg_of X G a6) k6 b6
  have g7 : FnR P w K mg base 1 "turn_of" sp_turn_of := fn_turn_of T F7 (PySem.W.mg_of X G a7) k7 b7
  have g12 : FnR P w K mg base 1 "_law_mixed" sp__law_mixed := fn__law_mixed T F12 (PySem.W.mg_of X G a12) k12 b12
  have g13 : FnR P w K mg base 1 "_law_draw" sp__law_draw := fn__law_draw T F13 (PySem.W.mg_of X G a13) k13 b13
  have g16 : FnR P w K mg base 1 "_law_kind" sp__law_kind := fn__law_kind T F16 (PySem.W.mg_of X G a16) k16 b16 (fun a ha => by
    simp only [List.mem_cons, List.not_mem_nil, or_false] at ha
    rcases ha with rfl | rfl
    · refine ⟨C7, ea7, ew7, fun c hc => ?_⟩
      simp only [List.mem_cons, List.not_mem_nil, or_false] at hc
      rcases hc with rfl | rfl | rfl | rfl | rfl | rfl | rfl | rfl | rfl | rfl | rfl | rfl | rfl | rfl
      · exact ⟨_, .inl (PySem.W.mg_of X G ea0), xs_own ej0 eh0 ez0 em0 (fun z => eq0)⟩
      · exact ⟨_, .inl (PySem.W.mg_of X G ea1), xs_own ej1 eh1 ez1 em1 (fun z => eq1)⟩
      · exact ⟨_, .inl (PySem.W.mg_of X G ea2), xs_own ej2 eh2 ez2 em2 (fun z => eq2)⟩
      · exact ⟨_, .inl (PySem.W.mg_of X G ea3), xs_own ej3 eh3 ez3 em3 (fun z => eq3)⟩
      · exact ⟨_, .inl (PySem.W.mg_of X G ea4), xs_own ej4 eh4 ez4 em4 (fun z => eq4)⟩
      · exact ⟨_, .inl (PySem.W.mg_of X G ea5), xs_own ej5 eh5 ez5 em5 (fun z => eq5)⟩
      · exact ⟨_, .inl (PySem.W.mg_of X G ea6), xs_own ej6 eh6 ez6 em6 (fun z => eq6)⟩
      · exact ⟨_, .inl (PySem.W.mg_of X G ea7), xs_own ej7 eh7 ez7 em7 (fun z => nomatch z)⟩
      · exact ⟨_, .inl (PySem.W.mg_of X G ea8), xs_own ej8 eh8 ez8 em8 (fun z => eq8)⟩
      · exact ⟨_, .inl (PySem.W.mg_of X G ea9), xs_own ej9 eh9 ez9 em9 (fun z => eq9)⟩
      · exact ⟨_, .inl (PySem.W.mg_of X G ea10), xs_own ej10 eh10 ez10 em10 (fun z => eq10)⟩
      · exact ⟨_, .inl (PySem.W.mg_of X G ea11), xs_own ej11 eh11 ez11 em11 (fun z => eq11)⟩
      · exact ⟨_, .inl (PySem.W.mg_of X G ea12), xs_own ej12 eh12 ez12 em12 (fun z => eq12)⟩
      · exact ⟨_, .inr ⟨PySem.W.mg_none_of X G ev, (by decide +kernel), by decide⟩, xs_blt em14 eu⟩
    · refine ⟨C8, ea8, ew8, fun c hc => ?_⟩
      simp only [List.mem_cons, List.not_mem_nil, or_false] at hc
      rcases hc with rfl | rfl | rfl | rfl | rfl | rfl | rfl | rfl | rfl | rfl | rfl | rfl | rfl | rfl
      · exact ⟨_, .inl (PySem.W.mg_of X G ea0), xs_own ej0 eh0 ez0 em15 (fun z => eq15)⟩
      · exact ⟨_, .inl (PySem.W.mg_of X G ea1), xs_own ej1 eh1 ez1 em16 (fun z => eq16)⟩
      · exact ⟨_, .inl (PySem.W.mg_of X G ea2), xs_own ej2 eh2 ez2 em17 (fun z => eq17)⟩
      · exact ⟨_, .inl (PySem.W.mg_of X G ea3), xs_own ej3 eh3 ez3 em18 (fun z => eq18)⟩
      · exact ⟨_, .inl (PySem.W.mg_of X G ea4), xs_own ej4 eh4 ez4 em19 (fun z => eq19)⟩
      · exact ⟨_, .inl (PySem.W.mg_of X G ea5), xs_own ej5 eh5 ez5 em20 (fun z => eq20)⟩
      · exact ⟨_, .inl (PySem.W.mg_of X G ea6), xs_own ej6 eh6 ez6 em21 (fun z => eq21)⟩
      · exact ⟨_, .inl (PySem.W.mg_of X G ea7), xs_own ej7 eh7 ez7 em22 (fun z => eq22)⟩
      · exact ⟨_, .inl (PySem.W.mg_of X G ea8), xs_own ej8 eh8 ez8 em23 (fun z => nomatch z)⟩
      · exact ⟨_, .inl (PySem.W.mg_of X G ea9), xs_own ej9 eh9 ez9 em24 (fun z => eq24)⟩
      · exact ⟨_, .inl (PySem.W.mg_of X G ea10), xs_own ej10 eh10 ez10 em25 (fun z => eq25)⟩
      · exact ⟨_, .inl (PySem.W.mg_of X G ea11), xs_own ej11 eh11 ez11 em26 (fun z => eq26)⟩
      · exact ⟨_, .inl (PySem.W.mg_of X G ea12), xs_own ej12 eh12 ez12 em27 (fun z => eq27)⟩
      · exact ⟨_, .inr ⟨PySem.W.mg_none_of X G ev, (by decide +kernel), by decide⟩, xs_blt em29 eu⟩
    )
  have g1 : FnR P w K mg base 2 "is_among" sp_is_among := fn_is_among T F1 (PySem.W.mg_of X G a1) k1 b1 (g0.mono (by decide))
  have g14 : FnR P w K mg base 2 "_law_next" sp__law_next := fn__law_next T F14 (PySem.W.mg_of X G a14) k14 b14 (g12.mono (by decide))
  have g17 := fn__law_said (base := base) (w := w) (P := P) T l17 c17 (PySem.W.mg_of X G a17) k17 b17 (g16.mono (by decide)) (fun a ha => by
    simp only [List.mem_cons, List.not_mem_nil, or_false] at ha
    rcases ha with rfl | rfl
    · refine ⟨C7, ea7, ew7, fun c hc => ?_⟩
      simp only [List.mem_cons, List.not_mem_nil, or_false] at hc
      rcases hc with rfl
      · exact ⟨_, .inl (PySem.W.mg_of X G ea13), xs_own ej13 eh13 ez13 em13 (fun z => nomatch z)⟩
    · refine ⟨C8, ea8, ew8, fun c hc => ?_⟩
      simp only [List.mem_cons, List.not_mem_nil, or_false] at hc
      rcases hc with rfl
      · exact ⟨_, .inl (PySem.W.mg_of X G ea13), xs_own ej13 eh13 ez13 em28 (fun z => nomatch z)⟩
    )
  have g2 : FnR P w K mg base 3 "is_pair" sp_is_pair := fn_is_pair T F2 (PySem.W.mg_of X G a2) k2 b2 (g1.mono (by decide))
  have g4 : FnR P w K mg base 3 "is_order" sp_is_order := fn_is_order T F4 (PySem.W.mg_of X G a4) k4 b4 (g1.mono (by decide))
  have g9 : FnR P w K mg base 3 "is_set" sp_is_set := fn_is_set T F9 (PySem.W.mg_of X G a9) k9 b9 (g1.mono (by decide))
  have g15 : FnR P w K mg base 3 "_law_rows" sp__law_rows := fn__law_rows T F15 (PySem.W.mg_of X G a15) k15 b15 (g14.mono (by decide))
  have g18 : FnR P w K mg base 3 "_law_no_rows" sp__law_no_rows := fn__law_no_rows T F18 (PySem.W.mg_of X G a18) k18 b18 (g14.mono (by decide))
  have g19 : FnR P w K mg base 3 "_law_no_set" sp__law_no_set := fn__law_no_set T F19 (PySem.W.mg_of X G a19) k19 b19 (g14.mono (by decide))
  have g20 : FnR P w K mg base 3 "_law_no_order" sp__law_no_order := fn__law_no_order T F20 (PySem.W.mg_of X G a20) k20 b20 (g14.mono (by decide))
  have g3 : FnR P w K mg base 4 "need_pairs" sp_need_pairs := fn_need_pairs T F3 (PySem.W.mg_of X G a3) k3 b3 (g2.mono (by decide)) ⟨C7, PySem.W.mg_of X G ea7, ea7, eb7, ec7, ed7, ee7⟩
  have g8 : FnR P w K mg base 5 "least_span" sp_least_span := fn_least_span T F8 (PySem.W.mg_of X G a8) k8 b8 (g3.mono (by decide)) (g5.mono (by decide)) (g6.mono (by decide)) (g7.mono (by decide))
  have g10 : FnR P w K mg base 5 "set_bound" sp_set_bound := fn_set_bound T F10 (PySem.W.mg_of X G a10) k10 b10 (g3.mono (by decide)) (g9.mono (by decide)) ⟨C8, PySem.W.mg_of X G ea8, ea8, eb8, ec8, ed8, ee8⟩
  have g11 : FnR P w K mg base 5 "span_of" sp_span_of := fn_span_of T F11 (PySem.W.mg_of X G a11) k11 b11 (g3.mono (by decide)) (g4.mono (by decide)) ⟨C8, PySem.W.mg_of X G ea8, ea8, eb8, ec8, ed8, ee8⟩
  exact ok_law T l21 c21 TB sm (g15.mono (by decide)) (g13.mono (by decide)) (g18.mono (by decide)) (g19.mono (by decide)) (g20.mono (by decide)) (g14.mono (by decide)) (g8.mono (by decide)) (g10.mono (by decide)) (g11.mono (by decide)) (g17.mono (by decide))
end Law
open PySem PySem.W PyProof.Rows
set_option maxRecDepth 100000 in
set_option maxHeartbeats 0 in
theorem PySem.Challenge.cw_boundsmith_k42_rows_and_sets_refused_holds : PySem.Challenge.rw_boundsmith_k42_rows_and_sets_refused.Holds := by
  w_on; o_law; k_head; (case hw => w_witness2)
  k_fill
  refine Zh.walk_topT (n := 63) (x := "_law_script") (CX := fun w => L2.CX PySem.Challenge.pw_boundsmith_k42_rows_and_sets_refused w) rfl (by decide) rfl (by rfl) (fun w h Y => PySem.W.km_in_of Y) ?F (fun w H s e s1 z => Z.no_exc z)
  case F =>
    intro w mg fa h Y KX G hmg
    refine' Law.all_mk KX G hmg ?a0 ?l0 ?c0 ?k0 ?a1 ?l1 ?c1 ?k1 ?a2 ?l2 ?c2 ?k2 ?a3 ?l3 ?c3 ?k3 ?a4 ?l4 ?c4 ?k4 ?a5 ?l5 ?c5 ?k5 ?a6 ?l6 ?c6 ?k6 ?a7 ?l7 ?c7 ?k7 ?a8 ?l8 ?c8 ?k8 ?a9 ?l9 ?c9 ?k9 ?a10 ?l10 ?c10 ?k10 ?a11 ?l11 ?c11 ?k11 ?a12 ?l12 ?c12 ?k12 ?a13 ?l13 ?c13 ?k13 ?a14 ?l14 ?c14 ?k14 ?a15 ?l15 ?c15 ?k15 ?a16 ?l16 ?c16 ?k16 ?a17 ?l17 ?c17 ?k17 ?a18 ?l18 ?c18 ?k18 ?a19 ?l19 ?c19 ?k19 ?a20 ?l20 ?c20 ?k20 ?a21 ?l21 ?c21 ?lt ?vt ?nt ?ht ?tb ?z0 ?z1 ?z2 ?z3 ?z4 ?z5 ?z6 ?z7 ?z8 ?z9 ?z10 ?z11 ?z12 ?z13 ?z14 ?z15 ?z16 ?z17 ?z18 ?z19 ?z20 ?z21 ?q0 ?q1 ?q2 ?q3 ?ea0 ?ea1 ?ea2 ?ea3 ?ea4 ?ea5 ?ea6 ?ea7 ?ea8 ?ea9 ?ea10 ?ea11 ?ea12 ?ea13 ?eb7 ?ec7 ?ed7 ?ee7 ?eb8 ?ec8 ?ed8 ?ee8 ?ew7 ?ew8 ?ev ?eh0 ?ej0 ?ez0 ?eh1 ?ej1 ?ez1 ?eh2 ?ej2 ?ez2 ?eh3 ?ej3 ?ez3 ?eh4 ?ej4 ?ez4 ?eh5 ?ej5 ?ez5 ?eh6 ?ej6 ?ez6 ?eh7 ?ej7 ?ez7 ?eh8 ?ej8 ?ez8 ?eh9 ?ej9 ?ez9 ?eh10 ?ej10 ?ez10 ?eh11 ?ej11 ?ez11 ?eh12 ?ej12 ?ez12 ?eh13 ?ej13 ?ez13 ?eu ?em0 ?eq0 ?em1 ?eq1 ?em2 ?eq2 ?em3 ?eq3 ?em4 ?eq4 ?em5 ?eq5 ?em6 ?eq6 ?em7 ?em8 ?eq8 ?em9 ?eq9 ?em10 ?eq10 ?em11 ?eq11 ?em12 ?eq12 ?em13 ?em14 ?em15 ?eq15 ?em16 ?eq16 ?em17 ?eq17 ?em18 ?eq18 ?em19 ?eq19 ?em20 ?eq20 ?em21 ?eq21 ?em22 ?eq22 ?em23 ?em24 ?eq24 ?em25 ?eq25 ?em26 ?eq26 ?em27 ?eq27 ?em28 ?em29
    (case a0 => k_is); (case l0 => k_is); (case c0 => k_is); (case k0 => k_is); (case a1 => k_is); (case l1 => k_is); (case c1 => k_is); (case k1 => k_is)
    (case a2 => k_is); (case l2 => k_is); (case c2 => k_is); (case k2 => k_is); (case a3 => k_is); (case l3 => k_is); (case c3 => k_is); (case k3 => k_is)
    (case a4 => k_is); (case l4 => k_is); (case c4 => k_is); (case k4 => k_is); (case a5 => k_is); (case l5 => k_is); (case c5 => k_is); (case k5 => k_is)
    (case a6 => k_is); (case l6 => k_is); (case c6 => k_is); (case k6 => k_is); (case a7 => k_is); (case l7 => k_is); (case c7 => k_is); (case k7 => k_is)
    (case a8 => k_is); (case l8 => k_is); (case c8 => k_is); (case k8 => k_is); (case a9 => k_is); (case l9 => k_is); (case c9 => k_is); (case k9 => k_is)
    (case a10 => k_is); (case l10 => k_is); (case c10 => k_is); (case k10 => k_is); (case a11 => k_is); (case l11 => k_is); (case c11 => k_is); (case k11 => k_is)
    (case a12 => k_is); (case l12 => k_is); (case c12 => k_is); (case k12 => k_is); (case a13 => k_is); (case l13 => k_is); (case c13 => k_is); (case k13 => k_is)
    (case a14 => k_is); (case l14 => k_is); (case c14 => k_is); (case k14 => k_is); (case a15 => k_is); (case l15 => k_is); (case c15 => k_is); (case k15 => k_is)
    (case a16 => k_is); (case l16 => k_is); (case c16 => k_is); (case k16 => k_is); (case a17 => k_is); (case l17 => k_is); (case c17 => k_is); (case k17 => k_is)
    (case a18 => k_is); (case l18 => k_is); (case c18 => k_is); (case k18 => k_is); (case a19 => k_is); (case l19 => k_is); (case c19 => k_is); (case k19 => k_is)
    (case a20 => k_is); (case l20 => k_is); (case c20 => k_is); (case k20 => k_is); (case a21 => k_is); (case l21 => k_is); (case c21 => k_is); (case lt => k_is)
    (case vt => exact rfl); (case nt => kernel_rfl); (case ht => kernel_rfl); (case tb => exact PySem.W.km_tabs_of Y _ (by k_mem)); (case z0 => k_is); (case z1 => k_is); (case z2 => k_is); (case z3 => k_is)
    (case z4 => k_is); (case z5 => k_is); (case z6 => k_is); (case z7 => k_is); (case z8 => k_is); (case z9 => k_is); (case z10 => k_is); (case z11 => k_is)
    (case z12 => k_is); (case z13 => k_is); (case z14 => k_is); (case z15 => k_is); (case z16 => k_is); (case z17 => k_is); (case z18 => k_is); (case z19 => k_is)
    (case z20 => k_is); (case z21 => k_is); (case q0 => k_is); (case q1 => k_is); (case q2 => k_is); (case q3 => k_is); (case ea0 => k_is); (case ea1 => k_is)
    (case ea2 => k_is); (case ea3 => k_is); (case ea4 => k_is); (case ea5 => k_is); (case ea6 => k_is); (case ea7 => k_is); (case ea8 => k_is); (case ea9 => k_is)
    (case ea10 => k_is); (case ea11 => k_is); (case ea12 => k_is); (case ea13 => k_is); (case eb7 => k_exc); (case ec7 => k_is); (case ed7 => k_is); (case ee7 => k_is)
    (case eb8 => k_exc); (case ec8 => k_is); (case ed8 => k_is); (case ee8 => k_is); (case ew7 => exact ⟨by k_is, by k_is, by k_is, by k_is, by k_is, by k_is, by k_is, by k_is⟩); (case ew8 => exact ⟨by k_is, by k_is, by k_is, by k_is, by k_is, by k_is, by k_is, by k_is⟩); (case ev => k_is); (case eh0 => k_is)
    (case ej0 => k_is); (case ez0 => k_is); (case eh1 => k_is); (case ej1 => k_is); (case ez1 => k_is); (case eh2 => k_is); (case ej2 => k_is); (case ez2 => k_is)
    (case eh3 => k_is); (case ej3 => k_is); (case ez3 => k_is); (case eh4 => k_is); (case ej4 => k_is); (case ez4 => k_is); (case eh5 => k_is); (case ej5 => k_is)
    (case ez5 => k_is); (case eh6 => k_is); (case ej6 => k_is); (case ez6 => k_is); (case eh7 => k_is); (case ej7 => k_is); (case ez7 => k_is); (case eh8 => k_is)
    (case ej8 => k_is); (case ez8 => k_is); (case eh9 => k_is); (case ej9 => k_is); (case ez9 => k_is); (case eh10 => k_is); (case ej10 => k_is); (case ez10 => k_is)
    (case eh11 => k_is); (case ej11 => k_is); (case ez11 => k_is); (case eh12 => k_is); (case ej12 => k_is); (case ez12 => k_is); (case eh13 => k_is); (case ej13 => k_is)
    (case ez13 => k_is); (case eu => k_is); (case em0 => k_is); (case eq0 => decide); (case em1 => k_is); (case eq1 => decide); (case em2 => k_is); (case eq2 => decide)
    (case em3 => k_is); (case eq3 => decide); (case em4 => k_is); (case eq4 => decide); (case em5 => k_is); (case eq5 => decide); (case em6 => k_is); (case eq6 => decide)
    (case em7 => k_is); (case em8 => k_is); (case eq8 => decide); (case em9 => k_is); (case eq9 => decide); (case em10 => k_is); (case eq10 => decide); (case em11 => k_is)
    (case eq11 => decide); (case em12 => k_is); (case eq12 => decide); (case em13 => k_is); (case em14 => k_is); (case em15 => k_is); (case eq15 => decide); (case em16 => k_is)
    (case eq16 => decide); (case em17 => k_is); (case eq17 => decide); (case em18 => k_is); (case eq18 => decide); (case em19 => k_is); (case eq19 => decide); (case em20 => k_is)
    (case eq20 => decide); (case em21 => k_is); (case eq21 => decide); (case em22 => k_is); (case eq22 => decide); (case em23 => k_is); (case em24 => k_is); (case eq24 => decide)
    (case em25 => k_is); (case eq25 => decide); (case em26 => k_is); (case eq26 => decide); (case em27 => k_is); (case eq27 => decide); (case em28 => k_is); (case em29 => k_is)
#print axioms PySem.Challenge.cw_boundsmith_k42_rows_and_sets_refused_holds
